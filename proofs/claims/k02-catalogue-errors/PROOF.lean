import PyProof.Rows.All
import Wide.All
import OpenK.AllK
import Wide.FinOn
import KE.KStateDown
import HandS.ForMost
import HandS.Defaults
import HandS.Exc
import HandS.Codes
import HandS.TryOnly
import HandS.Lambda
import HandS.EndTab
import HandS.Head0
import HandS.Head1
import HandS.Head2
import HandS.HeadEnd
import HandS.HeadHook1
import HandS.HeadHook2
import HandS.HeadHook3
import HandS.HeadHook4
import HandS.HeadWalk
import HandS.Sort
import HandS.SortOrd
import HandS.SortRule
import HandS.SortInts
import HandS.SortKw
import HandS.Wide
import HandS.SetKeys
import HandS.DictComp
import HandS.IsInst
import HandS.Deep
import HandS.Style
import HandS.Finally
import HandS.ListItems
import HandS.CallLocal
import HandS.SetFor
import HandS.RaiseMore
import HandS.Zip
import HandS.Conv
import HandS.Strs
import KE.KSortTupAny
import KE.KSortKey
import KE.KEqDict
import HandS.MakeKw
import HandS.ExcOwn
import HandS.ExcInit
import HandS.ExcField
import HandS.ExcIs
import HandS.ExcValue
import HandS.CallSlots
import HandS.ClsMeth
import HandS.ExcCtx
import HandS.Hot
import HandS.HotCalls
import HandS.RaiseFrom
import HandS.ExcInitHot
import PySem.Challenge.RW_splitstock_k02_catalogue_errors
import HandS.Walk
import PyProof.NeKinds
import HandS.Iter
import PyProof.SumAny
import KE.KDictSum
import HandS.MapSum
import PyProof.ReprRoads
import PyProof.StrLawsRepr
import PyProof.FitsInt
import PyProof.EqAt
import PyProof.SeqRoads2
import PyProof.Rows.SetFrom
import PyProof.Rows.SortShellSt
import HandS.Set
import KE.KUnpackStar
import HandS.Text
import PyProof.InstNe
import PyProof.FactsAll.object_2
import HandS.OwnEq
import HandS.Dict
set_option Elab.async false
set_option linter.all false
set_option maxRecDepth 100000
set_option maxHeartbeats 4000000
/-! sorting tuples that begin (int, text) -/
namespace Sk
open PySem PySem.Spec PyProof.Rows L2
/-- an int, then a text -/
def kLt (p q : Int × Str) : Bool := if p.1 = q.1 then decide (p.2.cps.toList < q.2.cps.toList) else decide (p.1 < q.1)
theorem kLt_iff {p q : Int × Str} : kLt p q = true ↔ p.1 < q.1 ∨ (p.1 = q.1 ∧ p.2.cps.toList < q.2.cps.toList) := by
  unfold kLt
  by_cases e : p.1 = q.1
  · rw [if_pos e, decide_eq_true_eq]
    constructor
    · exact fun h => .inr ⟨e, h⟩
    · rintro (h | h)
      · omega
      · exact h.2
  · rw [if_neg e, decide_eq_true_eq]
    constructor
    · exact fun h => .inl h
    · rintro (h | h)
      · exact h
      · exact absurd h.1 e
theorem kLt_no {p q : Int × Str} : kLt p q = false ↔ q.1 < p.1 ∨ (p.1 = q.1 ∧ ¬ p.2.cps.toList < q.2.cps.toList) := by
  unfold kLt
  by_cases e : p.1 = q.1
  · rw [if_pos e, decide_eq_false_iff_not]
    constructor
    · exact fun h => .inr ⟨e, h⟩
    · rintro (h | h)
      · omega
      · exact h.2
  · rw [if_neg e, decide_eq_false_iff_not]
    constructor
    · exact fun h => .inl (by omega)
    · rintro (h | h)
      · omega
      · exact absurd h.1 e
theorem str_ext {x y : Str} (h : x.cps.toList = y.cps.toList) : x = y := by
  have hc : x.cps = y.cps := Array.toList_inj.mp h
  cases x; cases y
  simp only [Str.mk.injEq]
  exact hc
theorem kLt_total {p q : Int × Str} (h1 : kLt p q = false) (h2 : kLt q p = false) : p = q := by
  rcases kLt_no.mp h1 with a | ⟨a, b⟩
  · rcases kLt_no.mp h2 with c | ⟨c, d⟩ <;> omega
  · rcases kLt_no.mp h2 with c | ⟨c, d⟩
    · omega
    · have e : p.2.cps.toList = q.2.cps.toList := strKind.total _ _ (decide_eq_false b) (decide_eq_false d)
      obtain ⟨i, x⟩ := p
      obtain ⟨j, y⟩ := q
      have e2 := str_ext e
      simp only at a e2
      rw [a, e2]
theorem kLt_swo {α : Type} (k : α → Int × Str) : SrtO.Swo fun x y => kLt (k x) (k y) := by
  refine ⟨fun x y h => ?_, fun x y z h1 h2 => ?_⟩
  · refine kLt_no.mpr ?_
    rcases kLt_iff.mp h with a | ⟨a, b⟩
    · exact .inl a
    · exact .inr ⟨a.symm, fun c => List.lt_irrefl _ (List.lt_trans b c)⟩
  · refine kLt_no.mpr ?_
    rcases kLt_no.mp h1 with a | ⟨a, b⟩
    · rcases kLt_no.mp h2 with c | ⟨c, d⟩
      · exact .inl (by omega)
      · exact .inl (by omega)
    · rcases kLt_no.mp h2 with c | ⟨c, d⟩
      · exact .inl (by omega)
      · refine .inr ⟨by omega, fun e => ?_⟩
        rcases strKind.negTrans _ (k y).2.cps.toList _ (decide_eq_true e) with q | q
        · exact d (of_decide_eq_true q)
        · exact b (of_decide_eq_true q)
/-- a tuple of the heap that begins with an int and a text -/
def IsT2 (h : Heap) (v : Value) (k : Int × Str) (rest : List Value) : Prop := ∃ a o t u n, v = .ref a ∧ h.get? a = some o ∧ o.cls = .type "tuple" ∧ o.data = .seq (Value.int k.1 t :: .str k.2 u :: rest).toArray n
theorem IsT2.keeps {h h' : Heap} {v : Value} {k : Int × Str} {rest : List Value} (p : IsT2 h v k rest) (kp : ∀ b o, h.get? b = some o → o.cls = .type "tuple" → h'.get? b = some o) : IsT2 h' v k rest := by
  obtain ⟨a, o, t, u, n, e, ho, hc, hd⟩ := p
  exact ⟨a, o, t, u, n, e, kp a o ho hc, hc, hd⟩
section
variable {prog : Program} {w : World} {A : Around} {E : Value → Shared → Prop} {s : Shared}
theorem eqBool_same {v : Value} {Q : Bool → Shared → Prop} (hv : (v == v) = true) (h : Q true s) : wpAny (model prog w) A (eqBool v v) Q E s := by
  unfold eqBool
  refine wpAny_holding ?_
  rw [hv]
  simp only [if_true]
  exact wpAny_bind (wpAny_rule (wpAny_pure h))
theorem kat_same {b : Bool} {Q : Bool → Shared → Prop} : ∀ (l : List Value) (i : Nat), (∀ v ∈ l, (v == v) = true) → Q false s → PySem.W.KatLex prog w A b false Q (l.zip l) i s
  | [], _, _, h => PySem.W.kat_nil h
  | v :: l, i, hv, h => by
    show PySem.W.KatLex prog w A b false Q ((v, v) :: l.zip l) i s
    refine PySem.W.kat_cons (eqBool_same (hv v (List.mem_cons_self ..)) (PySem.W.kat_yes ?_))
    exact kat_same l (i + 1) (fun u hu => hv u (List.mem_cons_of_mem _ hu)) h
/-- what any two of them answer -/
theorem t2_cmp {vs : List Value} {k : Value → Int × Str} {rest : Value → List Value} (hp : ∀ v ∈ vs, IsT2 s.heap v (k v) (rest v)) (hr : ∀ v ∈ vs, ∀ u ∈ rest v, (u == u) = true)
    (hi : ∀ v ∈ vs, ∀ u ∈ vs, k v = k u → rest v = rest u) : SrtO.Cmp prog w A s (tuples' true) (fun p => p.1 ∈ vs) (SrtO.lt2 fun v u => kLt (k v) (k u)) := by
  intro p q hm hm'
  obtain ⟨a, o, t, u, n, e, ho, hc, hd⟩ := hp _ hm
  obtain ⟨a', o', t', u', n', e', ho', hc', hd'⟩ := hp _ hm'
  have hi' := hi _ hm _ hm'
  have hr' := hr _ hm
  show wpAny (model prog w) A (keyLt' (tuples' true) p.1 q.1) (fun r s' => s' = s ∧ r = kLt (k p.1) (k q.1)) (fun _ _ => False) s
  generalize k p.1 = kp at hi' ⊢ hd
  generalize k q.1 = kq at hi' ⊢ hd'
  generalize rest p.1 = rp at hi' hr' hd
  generalize rest q.1 = rq at hi' hd'
  rw [e, e']
  refine PySem.W.kat_lt ho hd ho' hd' ?_
  obtain ⟨x, y⟩ := kp
  obtain ⟨x', y'⟩ := kq
  have key : ∀ fin : Bool, (x = x' → y = y' → fin = false) → PySem.W.KatLex prog w A true fin (fun r s' => s' = s ∧ r = kLt (x, y) (x', y')) ((.int x t, .int x' t') :: (.str y u, .str y' u') :: rp.zip rq) 0 s := by
    intro fin hf
    unfold kLt
    refine PySem.W.kat_cons (SeqAt.EqAt.int_int x t x' t' prog w _ _ ?_)
    refine PySem.W.kat_go (fun e1 => ?_) (fun e1 => ?_)
    · have ex : x = x' := by simpa using e1
      refine PySem.W.kat_yes (PySem.W.kat_cons (wpAny_eqBool_str ?_))
      refine PySem.W.kat_go (fun e2 => ?_) (fun e2 => ?_)
      · have ey : y = y' := of_decide_eq_true e2
        have e3 : (if x = x' then decide (y.cps.toList < y'.cps.toList) else decide (x < x')) = false := by
          rw [if_pos ex, ey]
          exact decide_eq_false (List.lt_irrefl _)
        have e4 := hi' (by rw [ex, ey])
        rw [← e4, hf ex ey]
        exact PySem.W.kat_yes (kat_same rp _ hr' ⟨rfl, e3.symm⟩)
      · have e3 : (if x = x' then decide (y.cps.toList < y'.cps.toList) else decide (x < x')) = decide (y.cps.toList < y'.cps.toList) := if_pos ex
        exact PySem.W.kat_no (oneLt_any_str ⟨rfl, e3.symm⟩)
    · have ex : ¬ x = x' := by simpa using e1
      have e3 : (if x = x' then decide (y.cps.toList < y'.cps.toList) else decide (x < x')) = decide (x < x') := if_neg ex
      exact PySem.W.kat_no (oneLt_int ⟨rfl, e3.symm⟩)
  have := key (decide ((Value.int x t :: .str y u :: rp).toArray.size < (Value.int x' t' :: .str y' u' :: rq).toArray.size)) (fun ex ey => by
    have e4 := hi' (by rw [ex, ey])
    rw [e4]
    simp)
  simpa using this
theorem t2_firsts {h : Heap} {k : Value → Int × Str} {rest : Value → List Value} : ∀ {vs : List Value}, (∀ v ∈ vs, IsT2 h v (k v) (rest v)) → ∃ fs, PySem.W.KatTups h vs fs ∧ fs.length = vs.length ∧ ∀ f ∈ fs, ∃ i t, f = Value.int i t
  | [], _ => ⟨[], .nil, rfl, fun _ h => nomatch h⟩
  | v :: vs, hp => by
    obtain ⟨fs, h1, h2, h3⟩ := t2_firsts (vs := vs) fun u hu => hp u (List.mem_cons_of_mem _ hu)
    obtain ⟨a, o, t, u, n, e, ho, hc, hd⟩ := hp v (List.mem_cons_self ..)
    subst e
    refine ⟨.int (k (.ref a)).1 t :: fs, .cons ho hc hd rfl h1, by rw [List.length_cons, List.length_cons, h2], fun f hf => ?_⟩
    rcases List.mem_cons.mp hf with rfl | hf
    · exact ⟨_, _, rfl⟩
    · exact h3 f hf
theorem t2_sortableO {a : Addr} {vs : List Value} {k : Value → Int × Str} {rest : Value → List Value} (h0 : 0 < vs.length) (hp : ∀ v ∈ vs, IsT2 s.heap v (k v) (rest v)) (hr : ∀ v ∈ vs, ∀ u ∈ rest v, (u == u) = true)
    (hi : ∀ v ∈ vs, ∀ u ∈ vs, k v = k u → rest v = rest u) (ha : ∀ o, s.heap.get? a = some o → o.cls ≠ .type "tuple") : SrtO.SortableO prog w A s a vs fun v u => kLt (k v) (k u) := by
  intro h' keep
  have hp' : ∀ v ∈ vs, IsT2 h' v (k v) (rest v) := fun v hm => (hp v hm).keeps fun b o e c => keep b o (fun z => by subst z; exact ha o e c) e
  obtain ⟨fs, h1, h2, h3⟩ := t2_firsts hp'
  refine ⟨tuples' true, fun Q E hq => ?_, t2_cmp hp' hr hi⟩
  refine PySem.W.kat_kind (T := .type "int") h1 (by omega) (fun f hm => ?_) (by rfl) ?_
  · obtain ⟨x, t, rfl⟩ := h3 f hm
    exact PySem.W.Looks.now
  · have e : (Value.type "int" != Value.type "tuple") = true := by first | decide +kernel | rfl | decide
    rw [e]
    exact hq
end

/-- sorted(xs), xs a list of tuples that begin with an int and a text (k says which); where two keys agree, the tuples are one or have no more items -/
def rSortedT (K : PySem.W.Frag) : List V → Hp → VK → Prop := fun vs H Q => ∃ (a : Addr) (xs : List V) (k : V → Int × Str) (rest : V → List V), vs = [V.ref a] ∧ SqL K H a xs ∧
  (∀ x ∈ xs, ∃ t, x = V.ref t ∧ H t = some (.tup (.int (k x).1 :: .str (k x).2 :: rest x))) ∧ (∀ x ∈ xs, ∀ r ∈ rest x, ∃ b, r = V.ref b) ∧ (∀ x ∈ xs, ∀ y ∈ xs, k x = k y → x = y ∨ (rest x = [] ∧ rest y = [])) ∧
  ∀ ys p, SrtO.Srtd (fun x y => kLt (k x) (k y)) ys → SrtO.Stb (fun x y => kLt (k x) (k y)) ys xs → H p = none → Q (.ref p) (upd H p (.lst ys))
def valOf : V → Value
  | .ref a => .ref a
  | _ => .none
section
variable {X : Cx}
theorem vals_refs : ∀ {rs : List V} {us : List Value}, Vals rs us → (∀ r ∈ rs, ∃ b, r = V.ref b) → us = rs.map valOf
  | _, _, .nil, _ => rfl
  | r :: rs, u :: us, .cons h t, hb => by
    obtain ⟨b, rfl⟩ := hb r (List.mem_cons_self ..)
    rw [vals_refs t fun x hx => hb x (List.mem_cons_of_mem _ hx)]
    obtain rfl : u = Value.ref b := h
    rfl
theorem cr_sortedT : CallR X (.builtin "sorted") (rSortedT X.K) := by
  intro pins s σ H vs us Q I r h
  obtain ⟨a, xs, k, rest, rfl, hs, hx, hrf, hi, q⟩ := h
  obtain ⟨its, rv, hl, hz⟩ := I.list hs
  obtain ⟨u, rfl, ru⟩ := vals1 r
  obtain rfl : u = Value.ref a := ru
  obtain ⟨e1, e2⟩ := refs_back rv fun x m => by
    obtain ⟨t, e, _⟩ := hx x m
    exact ⟨t, e⟩
  have hm : ∀ t, Value.ref t ∈ its → V.ref t ∈ xs := fun t hv => by rw [e1]; exact List.mem_map.mpr ⟨_, hv, rfl⟩
  have hp : ∀ v ∈ its, IsT2 s.heap v (k (backV v)) ((rest (backV v)).map valOf) := fun v hv => by
    obtain ⟨t, rfl⟩ := e2 v hv
    obtain ⟨t', e, ht⟩ := hx _ (hm t hv)
    cases e
    obtain ⟨_, its2, r2, o, ho, hc, n, hd⟩ := I.hok _ _ ht
    cases r2 with
    | cons ri r2 =>
      cases r2 with
      | cons rj r2 =>
        obtain ⟨t1, rfl⟩ := ri
        obtain ⟨t2, rfl⟩ := rj
        rw [vals_refs r2 (hrf _ (hm t hv))] at hd
        exact ⟨t, o, t1, t2, n, rfl, ho, hc, hd⟩
  have hr : ∀ v ∈ its, ∀ u ∈ (rest (backV v)).map valOf, (u == u) = true := fun v hv u hu => by
    obtain ⟨x, hx', rfl⟩ := List.mem_map.mp hu
    obtain ⟨t, rfl⟩ := e2 v hv
    obtain ⟨b, rfl⟩ := hrf _ (hm t hv) _ hx'
    show (Value.ref b == Value.ref b) = true
    simp [valOf]
  have hi' : ∀ v ∈ its, ∀ u ∈ its, k (backV v) = k (backV u) → (rest (backV v)).map valOf = (rest (backV u)).map valOf := fun v hv u hu e => by
    obtain ⟨t, rfl⟩ := e2 v hv
    obtain ⟨t', rfl⟩ := e2 u hu
    rcases hi _ (hm t hv) _ (hm t' hu) e with z | ⟨z1, z2⟩
    · show (rest (V.ref t)).map valOf = (rest (V.ref t')).map valOf
      rw [z]
    · show (rest (V.ref t)).map valOf = (rest (V.ref t')).map valOf
      rw [z1, z2]
  refine SrtO.sorted_ord (ltv := fun v u => kLt (k (backV v)) (k (backV u))) (kLt_swo fun v => k (backV v)) hl.isList (by rw [← rv.length]; exact hz) (fun h2 h₁ a' ha kk => ?_) fun out h1 h2 => ?_
  · refine t2_sortableO (s := { s with heap := h₁ }) (rest := fun v => (rest (backV v)).map valOf) (by omega) (fun v hm => (hp v hm).keeps fun b o e _ => (kk b o e).2) hr hi' fun o e => ?_
    have e' : some o = some (seqObj "list" its.toArray 0) := e.symm.trans ha
    cases e'
    intro c
    exact absurd (Value.type.inj c) (by decide)
  · have h3 : ∀ u ∈ out, ∃ a, u = Value.ref a := fun u hu => e2 u (h2.perm.mem_iff.mp hu)
    obtain ⟨n, hn⟩ := sortedAll_at s.heap its out.toArray
    have hd : s.heap.objs.size ≤ s.heap.objs.size + 1 := Nat.le_succ _
    have hb : SrtO.Stb (fun x y => kLt (k x) (k y)) (out.map backV) xs := by
      rw [e1]
      exact SrtO.Stb.map (kLt_swo k) backV h2
    refine ⟨.ref (s.heap.objs.size + 1), upd H (s.heap.objs.size + 1) (.lst (out.map backV)), I.laid (t' := s.toks) (fun b o e => sortedAll_old e) hd ⟨?_, out, n, vals_back h3, hn⟩, rfl, q _ _ (SrtO.srtd_map h1) hb (I.hok.fresh hd)⟩
    rw [hb.len]
    exact hz
end
end Sk
/-! sorted(xs, key=lambda x: ..) -/
namespace Sk
open PySem PySem.Spec PyProof.Rows L2
section
variable {P : Program} {w : World} {K : PySem.W.Frag} {mg : Str → Option Value} {base : Heap}
/-- a lambda of parameters and no captured names, called -/
theorem lam_run {N ps : List Str} {k : Nat} {q : Str} {params : Arguments} {body : Expr} {scope : Scope} {pm ctv : Value} {f c' : Addr} {A : Around} {outer : List Env} {s : Shared} {H : Hp} {us : List Value} {vs : List V} {Q : VK} {E : XK} {te : TE}
    (of1 : s.heap.get? f = some (PySem.W.kla_obj "<lambda>" q params body scope [] pm c' ctv)) (S : FnScope N ps scope)
    (hb : bindArgs (PySem.W.kla_fn "<lambda>" q params body scope [] pm (.ref c') ctv) ⟨us, []⟩ = pure (ps.zip us)) (hr : Room (k + 1) A) (e0 : Env0 P w K mg base A outer s H) (hc : H c' = some (LamX.CodeO c' q))
    (r : Vals vs us) (hl : vs.length = ps.length)
    (hbody : PE (cxOf CX0 P w K mg base N q scope f (.ref c') A outer s H E) body te) (ht : te (start N vs) H Q) :
    codeAny (model P w) A (.call (.ref f) ⟨us, []⟩) (CR CX0 outer P w H s Q E) s := by
  have lim : s.heap.NoLimit := e0.mod.nolimit.keeps fun b o e => (e0.bs b o e).1
  obtain ⟨⟨oc, vs', t, hoc, hdc, hvc⟩, _, _⟩ := e0.hok c' _ hc
  have hkind : ∀ y ∈ ps.zip us, scope.names.lookup y.1 = some .local ∨ (scope.names.lookup y.1 = some .cell ∧ ((cellsFrom (s.heap.objs.size + 1) scope.names []).lookup y.1).isSome = true) := fun ⟨n, v⟩ hy => by
    rcases S.par n (List.of_mem_zip hy).1 with q | q
    · exact .inl q
    · exact .inr ⟨q, PySem.W.cellsFrom_some _ _ _ (.inl q)⟩
  refine PySem.W.kla_callFunE hr.depth of1 rfl S.co S.gen rfl ⟨c', oc, vs', t, rfl, hoc, hdc, hvc⟩ ?_
  rw [hb]
  refine wpAny_pure (wpAny_newFunctionEnv_cells S.kind hkind fun env he s1 x => ?_)
  subst he
  refine ⟨lim.keeps x.toInCall.keep, PySem.W.kla_codeExpr ?_⟩
  have I : Inv (cxOf CX0 P w K mg base N q scope f (.ref c') A outer s H E) [] (start N vs) H s1 := inv_start S hr.hd e0 hl r x
  refine wpAny_mono (hbody.run [] s1 (start N vs) H Q I ht) (fun v s' hq => ?_) fun e s' hs => hs
  obtain ⟨w', H', J', rv, q⟩ := hq
  exact ⟨w', H', J'.os, J'.bare, J'.base, J'.hok, rv, q⟩
end
/-- objects that no one tracks are changed: the abstract heap is held -/
theorem hok_but {P : Program} {w : World} {H : Hp} {h h' : Heap} (ok : HOk P w H h) (k : ∀ b u, H b ≠ none → h.get? b = some u → h'.get? b = some u) : HOk P w H h' := fun b u e => by
  refine (ok b u e).stay (fun c v hc q => k c v ?_ q) (fun _ q => q) fun _ _ q => q
  rcases hc with z | z
  · rw [z, e]
    simp
  · rw [z]
    simp
/-- a new list, filled meanwhile, is tracked in the end -/
theorem hok_late {P : Program} {w : World} {H : Hp} {h : Heap} {a : Addr} {o : HO} (ok : HOk P w H h) (hn : H a = none) (new : ObjOk P w (upd H a o) h a o) : HOk P w (upd H a o) h := fun b u e => by
  by_cases hb : b = a
  · subst hb; rw [upd_same] at e; cases e; exact new
  · rw [upd_ne hb] at e
    exact (ok b u e).stay (fun c v _ q => q) (fun c q => by rw [upd_ne (ne_of_none q hn)]; exact q) fun c xs q => by rw [upd_ne (ne_of_none q hn)]; exact q
theorem un_but {fs : List Addr} {H H' : Hp} {h h' h2 : Heap} (u : Un fs [] H H' h h') (k : ∀ b o, b < h.objs.size → h'.get? b = some o → h2.get? b = some o) : Un fs [] H H' h h2 where
  keep := fun b o e n hb hx => k b o (Heap.lt_size e) (u.keep b o e n hb hx)
  slot := fun b o e n hb hx => by
    obtain ⟨sl, q⟩ := u.slot b o e n hb hx
    exact ⟨sl, k b _ (Heap.lt_size e) q⟩
  free := u.free
  there := fun b o e hx => by
    obtain ⟨o', q⟩ := u.there b o e hx
    exact ⟨o', k b o' (Heap.lt_size e) q⟩
  tups := u.tups
  frzs := u.frzs
  tbls := u.tbls
theorem un_late {fs : List Addr} {H H' : Hp} {h h' : Heap} {a : Addr} {o : HO} (u : Un fs [] H H' h h') (ha : h.objs.size ≤ a) (hn : H' a = none) : Un fs [] H (upd H' a o) h h' where
  keep := u.keep
  slot := u.slot
  free := fun b o e n hx => by
    rw [upd_ne (fun z => by rw [z] at e; exact Nat.lt_irrefl _ (Nat.lt_of_lt_of_le (Heap.lt_size e) ha))]
    exact u.free b o e n hx
  there := u.there
  tups := fun b xs e => by
    have q := u.tups b xs e
    rw [upd_ne (ne_of_none q hn)]
    exact q
  frzs := fun b o' x e => by
    have q := u.frzs b o' x e
    rw [upd_ne (ne_of_none q hn)]
    exact q
  tbls := fun b ps e => by
    obtain ⟨m, q⟩ := u.tbls b ps e
    exact ⟨m, by rw [upd_ne (ne_of_none q hn)]; exact q⟩
/-! ### the sort by keys, raw -/
section
variable {prog : Program} {w : World} {A : Around} {E : Value → Shared → Prop} {s : Shared}
theorem key_tail {a kS : Addr} {vs ks : List Value} {e e1 : Nat} {R : PySem.Fin → Shared → Prop} {st : SortSt} (hk : s.heap.get? kS = some (seqObj "list" ks.toArray e)) (ha : s.heap.get? a = some (seqObj "list" #[] e1)) (hka : kS ≠ a)
    (hz : ks.length ≤ sizeLine) (hsz : (arrOf st).size ≤ sizeLine) (hfl : failedOf st = none)
    (h : ∀ h' c, (∀ b o, b ≠ a → b ≠ kS → s.heap.get? b = some o → h'.get? b = some o) → h'.get? a = some (seqObj "list" ((arrOf st).map (·.2)) c) → R (.done (.ret .none)) { s with heap := h' }) :
    wpAny (model prog w) A (ksk_tail a false e1 (.ref kS) st) R E s := by
  have s1 := Heap.SameBut.update s.heap kS (Obj.mapSeq fun _ => (#[] : Array Value))
  have na1 : (s.heap.update kS (Obj.mapSeq fun _ => (#[] : Array Value))).get? a = some (seqObj "list" #[] e1) := (s1.2 a hka.symm).trans ha
  have s2 := Heap.SameBut.update (s.heap.update kS (Obj.mapSeq fun _ => (#[] : Array Value))) a (Obj.mapSeq fun _ => (arrOf st).map (·.2))
  obtain ⟨c2, hc2⟩ : ∃ c2, ((s.heap.update kS (Obj.mapSeq fun _ => (#[] : Array Value))).update a (Obj.mapSeq fun _ => (arrOf st).map (·.2))).get? a = some (seqObj "list" ((arrOf st).map (·.2)) c2) :=
    ⟨_, get?_update_seq na1 fun _ => (arrOf st).map (·.2)⟩
  unfold ksk_tail
  try dsimp only
  refine wpAny_bind (listUpdate_at hk rfl ?_ (by rw [List.size_toArray]; exact hz) (Nat.zero_le _))
  refine wpAny_bind (wpAny_letGo ?_)
  refine wpAny_bind (seqEpoch_at na1 rfl ?_)
  refine wpAny_bind (listUpdate_at na1 rfl ?_ (Nat.zero_le _) (by simp only [Bool.false_eq_true, if_false, Array.size_map]; omega))
  rw [hfl]
  simp only [bne_self_eq_false, Bool.false_eq_true, if_false]
  exact wpAny_pure (h _ c2 (fun b o h1 h2 q => (s2.2 b h1).trans ((s1.2 b h2).trans q)) hc2)
theorem key_end {a kS : Addr} {vs ks : List Value} {e e1 : Nat} {R : PySem.Fin → Shared → Prop} {lt : Keyed → Keyed → Bool} (O : SrtO.Swo lt) (hk : s.heap.get? kS = some (seqObj "list" ks.toArray e)) (ha : s.heap.get? a = some (seqObj "list" #[] e1)) (hka : kS ≠ a)
    (hlen : ks.length = vs.length) (hz : vs.length ≤ sizeLine)
    (hS : 2 ≤ vs.length → ∃ κ, (∀ (Q : SortKind → Shared → Prop) (E : Value → Shared → Prop), Q κ s → wpAny (model prog w) A (keyKind' ks.toArray) Q E s) ∧ SrtO.Cmp prog w A s κ (fun p => p.1 ∈ ks) lt)
    (h : ∀ (ps : List Keyed) h' c, SrtO.Srtd lt ps → SrtO.Stb lt ps (ks.zip vs) → (∀ b o, b ≠ a → b ≠ kS → s.heap.get? b = some o → h'.get? b = some o) → h'.get? a = some (seqObj "list" (ps.map (·.2)).toArray c) → R (.done (.ret .none)) { s with heap := h' }) :
    wpAny (model prog w) A (ksk_end a false vs.toArray e1 (.ref kS) ks.toArray) R E s := by
  have hzs : (ks.toArray.zip vs.toArray).size = vs.length := by rw [Array.size_zip, List.size_toArray, List.size_toArray, hlen, Nat.min_self]
  have ez : (ks.toArray.zip vs.toArray).toList = ks.zip vs := ksk_zip _ _
  have fin : ∀ st : SortSt, SrtO.Srtd lt (arrOf st).toList → SrtO.Stb lt (arrOf st).toList (ks.zip vs) → failedOf st = none → wpAny (model prog w) A (ksk_tail a false e1 (.ref kS) st) R E s := by
    intro st h1 h2 hf
    have hl := h2.len
    rw [List.length_zip, hlen, Nat.min_self, Array.length_toList] at hl
    refine key_tail (vs := vs) hk ha hka (by omega) (by omega) hf fun h' c k ho => ?_
    refine h _ h' c h1 h2 k ?_
    rw [ho]
    congr 2
    apply Array.toList_inj.mp
    simp
  unfold ksk_end
  try dsimp only
  simp only [Bool.false_eq_true, if_false]
  by_cases h2 : vs.toArray.size < 2
  · rw [if_pos h2, if_pos h2]
    refine wpAny_bind (wpAny_pure ?_)
    rw [StateT.run_pure]
    refine wpAny_bind (wpAny_pure ?_)
    try dsimp only
    refine fin (SortSt.mk' general' (ks.toArray.zip vs.toArray) #[] 7 none) ?_ (SrtO.Stb.of_eq ez) rfl
    show SrtO.Srtd lt (ks.toArray.zip vs.toArray).toList
    rw [ez]
    have hl : (ks.zip vs).length < 2 := by
      rw [List.length_zip, hlen, Nat.min_self]
      simpa using h2
    match ks.zip vs, hl with
    | [], _ => exact List.Pairwise.nil
    | [v], _ => exact List.pairwise_singleton _ _
    | _ :: _ :: l, h => exact absurd h (by rw [List.length_cons, List.length_cons]; omega)
  · rw [if_neg h2, if_neg h2]
    obtain ⟨κ, hkind, hT⟩ := hS (by simpa using h2)
    refine wpAny_bind (hkind _ _ ?_)
    have hall : SrtO.AllL (fun p : Keyed => p.1 ∈ ks) (ks.toArray.zip vs.toArray).toList := fun p hm => by
      rw [ez] at hm
      exact (List.of_mem_zip (show (p.1, p.2) ∈ ks.zip vs from hm)).1
    refine wpAny_bind (wpAny_mono (SrtO.wpS_sortO (st0 := SortSt.mk' κ (ks.toArray.zip vs.toArray) #[] 7 none)
      (Q := fun _ st' => SrtO.Srtd lt (arrOf st').toList ∧ SrtO.Stb lt (arrOf st').toList (ks.toArray.zip vs.toArray).toList ∧ failedOf st' = none) O hT rfl hall rfl rfl fun st' a1 a2 a3 => ⟨a1, a2, a3⟩) ?_ fun _ _ e => e)
    rintro ⟨⟨⟩, st'⟩ s' ⟨rfl, hp1, hp2, hf⟩
    try dsimp only
    rw [ez] at hp2
    exact fin st' hp1 hp2 hf
/-- sorted(l, key=f): J tells of the two lists that grow meanwhile -/
theorem sorted_key {l q : Addr} {vs : List Value} {Q : Value → Shared → Prop} (J : Addr → Addr → List Value → Shared → Prop) (hl : s.heap.IsList l vs.toArray) (hz : vs.length ≤ sizeLine)
    (start : ∀ (a kS : Addr) (h : Heap) (e1 : Nat), (∀ b o, s.heap.get? b = some o → h.get? b = some o) → s.heap.objs.size ≤ a → s.heap.objs.size ≤ kS → kS ≠ a → h.get? kS = some (seqObj "list" #[] 0) → h.get? a = some (seqObj "list" #[] e1) → J a kS [] { s with heap := h })
    (turn : ∀ (a kS : Addr) (e e1 : Nat) (ks : List Value) (x : Value) (s' : Shared), vs[ks.length]? = some x → J a kS ks s' → kS ≠ a → s'.heap.get? kS = some (seqObj "list" ks.toArray e) → s'.heap.get? a = some (seqObj "list" #[] e1) →
      wpAny (model prog w) A.in1.in1 (call (.ref q) [x]) (fun v s2 => s2.heap.get? kS = some (seqObj "list" ks.toArray e) ∧ s2.heap.get? a = some (seqObj "list" #[] e1) ∧
        ∀ h3, (∀ b o, b ≠ kS → s2.heap.get? b = some o → h3.get? b = some o) → J a kS (ks ++ [v]) { s2 with heap := h3 }) (fun _ _ => False) s')
    (done : ∀ (a kS : Addr) (e e1 : Nat) (ks : List Value) (s' : Shared), J a kS ks s' → ks.length = vs.length → kS ≠ a → s'.heap.get? kS = some (seqObj "list" ks.toArray e) → s'.heap.get? a = some (seqObj "list" #[] e1) →
      ∃ lt : Keyed → Keyed → Bool, SrtO.Swo lt ∧ (2 ≤ vs.length → ∃ κ, (∀ (Q : SortKind → Shared → Prop) (E : Value → Shared → Prop), Q κ s' → wpAny (model prog w) A.in1.in1 (keyKind' ks.toArray) Q E s') ∧ SrtO.Cmp prog w A.in1.in1 s' κ (fun p => p.1 ∈ ks) lt) ∧
        ∀ (ps : List Keyed) h' c, SrtO.Srtd lt ps → SrtO.Stb lt ps (ks.zip vs) → (∀ b o, b ≠ a → b ≠ kS → s'.heap.get? b = some o → h'.get? b = some o) → h'.get? a = some (seqObj "list" (ps.map (·.2)).toArray c) → Q (.ref a) { s' with heap := h' }) :
    wpAny (model prog w) A (call (.builtin "sorted") [.ref l] [(Str.ofString "key", .ref q)]) Q E s := by
  refine call_function_entry_kw kind_sorted plain_sorted entry_sorted (ksk_s1 _ _) ?_
  unfold Builtin.«sorted»
  refine wpAny_bind (m := checkCount "sorted" 1 1 _) (wpAny_pure ?_)
  refine wpAny_bind (collect_list hl ?_ hz)
  refine wpAny_bind (wpAny_newList ?_ hz)
  have hsz : ((s.heap.push (seqObj "list" #[] 0)).update s.heap.objs.size (Obj.mapSeq (· ++ vs.toArray))).objs.size = s.heap.objs.size + 1 := by
    rw [Heap.size_update, size_push']
  have hoL : (((s.heap.push (seqObj "list" #[] 0)).update s.heap.objs.size (Obj.mapSeq (· ++ vs.toArray))).push (seqObj "list" vs.toArray 0)).get? (s.heap.objs.size + 1) = some (seqObj "list" vs.toArray 0) := by
    rw [← hsz]; exact Heap.get?_push_size _ rfl
  have keep : ∀ b o, s.heap.get? b = some o → b < s.heap.objs.size ∧ (((s.heap.push (seqObj "list" #[] 0)).update s.heap.objs.size (Obj.mapSeq (· ++ vs.toArray))).push (seqObj "list" vs.toArray 0)).get? b = some o := fun b o q => by
    have hlt : b < s.heap.objs.size := Heap.lt_size q
    refine ⟨hlt, Heap.get?_push_of_some _ ?_⟩
    rw [Heap.get?_update_ne _ _ _ _ (Nat.ne_of_lt hlt)]
    exact Heap.get?_push_of_some _ q
  show wpAny _ _ _ _ _ { s with heap := ((s.heap.push (seqObj "list" #[] 0)).update s.heap.objs.size (Obj.mapSeq (· ++ vs.toArray))).push (seqObj "list" vs.toArray 0) }
  rw [hsz]
  generalize hg : ((s.heap.push (seqObj "list" #[] 0)).update s.heap.objs.size (Obj.mapSeq (· ++ vs.toArray))).push (seqObj "list" vs.toArray 0) = g at hoL keep ⊢
  have gsz : g.objs.size = s.heap.objs.size + 2 := by
    rw [← hg, size_push', hsz]
  refine wpAny_bind (wpAny_holding (wpAny_call_entry_kw slot_list_sort ⟨_, hoL, rfl⟩ entry_list_sort ?body (ksk_l1 _ _)))
  case body =>
    rw [ksk_t1]
    have ha : s.heap.objs.size + 1 < g.objs.size := Heap.lt_size hoL
    have s1 := Heap.SameBut.update g (s.heap.objs.size + 1) (Obj.mapSeq fun _ => (#[] : Array Value))
    obtain ⟨e1, ho1⟩ : ∃ e1, (g.update (s.heap.objs.size + 1) (Obj.mapSeq fun _ => (#[] : Array Value))).get? (s.heap.objs.size + 1) = some (seqObj "list" #[] e1) := ⟨_, get?_update_seq hoL fun _ => #[]⟩
    have hkS : ((g.update (s.heap.objs.size + 1) (Obj.mapSeq fun _ => (#[] : Array Value))).push (seqObj "tuple" vs.toArray 0)).objs.size = s.heap.objs.size + 3 := by rw [size_push', Heap.size_update, gsz]
    unfold ksk_tree
    refine wpAny_bind (listItems_at hoL rfl ?_)
    refine wpAny_bind (listUpdate_at hoL rfl ?_ (by rw [List.size_toArray]; exact hz) (Nat.zero_le _))
    refine wpAny_bind (seqEpoch_at ho1 rfl ?_)
    refine wpAny_bind (wpAny_newTuple ?_ (by show vs.length ≤ _; exact hz))
    refine wpAny_bind (wpAny_newList ?_ (Nat.zero_le _))
    refine wpAny_holding ?_
    have hk0 : (((g.update (s.heap.objs.size + 1) (Obj.mapSeq fun _ => (#[] : Array Value))).push (seqObj "tuple" vs.toArray 0)).push (seqObj "list" #[] 0)).get? (s.heap.objs.size + 3) = some (seqObj "list" #[] 0) := by
      rw [← hkS]; exact Heap.get?_push_size _ rfl
    have ha0 : (((g.update (s.heap.objs.size + 1) (Obj.mapSeq fun _ => (#[] : Array Value))).push (seqObj "tuple" vs.toArray 0)).push (seqObj "list" #[] 0)).get? (s.heap.objs.size + 1) = some (seqObj "list" #[] e1) :=
      Heap.get?_push_of_some _ (Heap.get?_push_of_some _ ho1)
    have keep2 : ∀ b o, s.heap.get? b = some o → (((g.update (s.heap.objs.size + 1) (Obj.mapSeq fun _ => (#[] : Array Value))).push (seqObj "tuple" vs.toArray 0)).push (seqObj "list" #[] 0)).get? b = some o := fun b o e => by
      obtain ⟨hlt, e'⟩ := keep b o e
      refine Heap.get?_push_of_some _ (Heap.get?_push_of_some _ ((s1.2 b ?_).trans e'))
      exact Nat.ne_of_lt (Nat.lt_succ_of_lt hlt)
    show wpAny (model prog w) A.in1.in1 (ksk_rest (s.heap.objs.size + 1) (.ref q) false vs.toArray _ (.ref ((g.update (s.heap.objs.size + 1) (Obj.mapSeq fun _ => (#[] : Array Value))).push (seqObj "tuple" vs.toArray 0)).objs.size)) _ _ { s with heap := ((g.update (s.heap.objs.size + 1) (Obj.mapSeq fun _ => (#[] : Array Value))).push (seqObj "tuple" vs.toArray 0)).push (seqObj "list" #[] 0) }
    rw [hkS]
    have hne : s.heap.objs.size + 3 ≠ s.heap.objs.size + 1 := by omega
    have J0 := start (s.heap.objs.size + 1) (s.heap.objs.size + 3) _ e1 keep2 (by show s.heap.objs.size ≤ s.heap.objs.size + 1; omega) (by show s.heap.objs.size ≤ s.heap.objs.size + 3; omega) hne hk0 ha0
    generalize s.heap.objs.size + 1 = a at *
    generalize s.heap.objs.size + 3 = kS at *
    generalize ((g.update a (Obj.mapSeq fun _ => (#[] : Array Value))).push (seqObj "tuple" vs.toArray 0)).push (seqObj "list" #[] 0) = h6 at *
    unfold ksk_rest
    refine wpAny_bind (wpAny_rule ?_)
    first
      | rw [List.forIn_toArray]
      | (rw [← Array.forIn_toList]; simp only [List.toList_toArray])
      | rw [← Array.forIn_toList]
    refine wpAny_bind (ksk_fold (fun i s' => ∃ ks e, ks.length = i ∧ J a kS ks s' ∧ s'.heap.get? kS = some (seqObj "list" ks.toArray e) ∧ s'.heap.get? a = some (seqObj "list" #[] e1)) vs 0 _
      ⟨[], 0, rfl, J0, hk0, ha0⟩ ?step ?done)
    case step =>
      rintro j x s' hx ⟨ks, e, hlen, hJ, hk, ha'⟩
      simp only [Nat.zero_add] at hlen ⊢
      have hj : j < vs.length := (List.getElem?_eq_some_iff.mp hx).1
      refine wpAny_bind (wpAny_attempt (wpAny_mono (turn a kS e e1 ks x s' (by rw [hlen]; exact hx) hJ hne hk ha') (fun v s'' he => ?_) fun _ _ hF => hF.elim))
      obtain ⟨hk2, ha2, hJ2⟩ := he
      try dsimp only
      have s1 := Heap.SameBut.update s''.heap kS (Obj.mapSeq (·.push v))
      obtain ⟨c2, hc2⟩ : ∃ c2, (s''.heap.update kS (Obj.mapSeq (·.push v))).get? kS = some (seqObj "list" (ks.toArray.push v) c2) := ⟨_, get?_update_seq hk2 (·.push v)⟩
      have ea : ks.toArray.push v = (ks ++ [v]).toArray := by simp
      refine wpAny_bind (listUpdate_at hk2 rfl ?_ (by rw [List.size_toArray]; omega) (by rw [Array.size_push, List.size_toArray]; omega))
      refine wpAny_pure ⟨rfl, ks ++ [v], c2, by rw [List.length_append, List.length_singleton, hlen], hJ2 _ fun b o hb q => (s1.2 b hb).trans q, ?_, (s1.2 a hne.symm).trans ha2⟩
      rw [← ea]
      exact hc2
    case done =>
      rintro s' ⟨ks, e, hlen, hJ, hk, ha'⟩
      rw [Nat.zero_add] at hlen
      try dsimp only
      refine wpAny_bind (listItems_at hk rfl ?_)
      obtain ⟨lt, O, hS, hq⟩ := done a kS e e1 ks s' hJ hlen hne hk ha'
      exact key_end O hk ha' hne hlen hz hS fun ps h' c h1 h2 k ho => ⟨_, rfl, wpAny_pure ⟨_, rfl, hq ps h' c h1 h2 k ho⟩⟩
end
end Sk
namespace Sk
open PySem PySem.Spec PyProof.Rows L2
/-- the key that a tracked tuple is -/
def kvOf (H : Hp) : Value → Int × Str
  | .ref p => match H p with
    | some (.tup [.int i, .str n]) => (i, n)
    | _ => (0, Str.empty)
  | _ => (0, Str.empty)
theorem kvOf_at {H : Hp} {p : Addr} {i : Int} {n : Str} (h : H p = some (.tup [.int i, .str n])) : kvOf H (.ref p) = (i, n) := by
  show (match H p with
    | some (.tup [.int i, .str n]) => (i, n)
    | _ => (0, Str.empty)) = (i, n)
  rw [h]
/-- sorted(e, key=lambda y: ..): the key of each item y is the pair k y -/
def SortLamQ (K : PySem.W.Frag) (T : List (Addr × Str)) (N : List Str) (tk : TE) (Q : VK) : VK := fun x H1 => ∃ (a : Addr) (xs : List V) (k : V → Int × Str), x = .ref a ∧ SqL K H1 a xs ∧ (∀ y ∈ xs, ∃ t, y = V.ref t) ∧ LamX.Tabs T H1 ∧
  (∀ y ∈ xs, ∀ H2, LamX.ExtN H1 H2 → ∀ Q' : VK, (∀ p, H2 p = none → Q' (.ref p) (upd H2 p (.tup [.int (k y).1, .str (k y).2]))) → tk (start N [y]) H2 Q') ∧
  ∀ ys a' H', SrtO.Srtd (fun x y => kLt (k x) (k y)) ys → ys.Perm xs → LamX.ExtN H1 H' → LamX.Tabs T H' → H' a' = none → Q (.ref a') (upd H' a' (.lst ys))
def tSortLam (K : PySem.W.Frag) (T : List (Addr × Str)) (N : List Str) (tk te : TE) : TE := fun σ H Q => te σ H (SortLamQ K T N tk Q)
/-- what is known between two keys -/
def KeyJ (X : Cx) (H1 : Hp) (s1 : Shared) (k : V → Int × Str) (xs : List V) (a kS : Addr) (ks : List Value) (s' : Shared) : Prop :=
  ∃ H' : Hp, s'.os = s1.os ∧ AllBare s'.gens ∧ Un (frs X.stack) [] H1 H' s1.heap s'.heap ∧ HOk X.prog X.w H' s'.heap ∧ (∀ b o, H1 b = some o → H' b = some o) ∧ H' a = none ∧ H' kS = none ∧ s1.heap.objs.size ≤ a ∧ s1.heap.objs.size ≤ kS ∧
    ks.length ≤ xs.length ∧ ∀ (i : Nat) (u : Value), ks[i]? = some u → ∃ p y, u = Value.ref p ∧ xs[i]? = some y ∧ H' p = some (.tup [.int (k y).1, .str (k y).2])
section
variable {X : Cx}
theorem zip_get {ks its : List Value} {p : Keyed} (h : p ∈ ks.zip its) : ∃ i : Nat, ks[i]? = some p.1 ∧ its[i]? = some p.2 := by
  obtain ⟨i, hi, e⟩ := List.mem_iff_getElem.mp h
  rw [List.length_zip] at hi
  refine ⟨i, ?_, ?_⟩
  · rw [List.getElem?_eq_getElem (by omega), ← e, List.getElem_zip]
  · rw [List.getElem?_eq_getElem (by omega), ← e, List.getElem_zip]
theorem pe_sortLam {T : List (Addr × Str)} {N ps : List Str} {c P : Addr} {k : Nat} {e : Expr} {te tk : TE} {params : Arguments} {body : Expr} {scope : Scope} {p lpos kpos pos : Pos}
    (hg : Gl X "sorted") (hm : X.mg "sorted" = none) (hr : Room (k + 3) X.A) (TB : LamX.TabB X.base X.mg c P) (hcode : X.env.code = .ref c) (hmT : (P, X.env.qual ++ "<lambda>") ∈ T) (hu : ∀ p ∈ T, p.1 = P → p.2 = X.env.qual ++ "<lambda>")
    (S : FnScope N ps scope) (hdef : defaultsOf params X.env = ([], [])) (hclo : ∀ cells, cloFrom cells scope.names [] = []) (h1 : ps.length = 1)
    (hbind : ∀ (q : Str) (pm cv ctv : Value) (us : List Value), us.length = 1 → bindArgs (PySem.W.kla_fn "<lambda>" q params body scope [] pm cv ctv) ⟨us, []⟩ = pure (ps.zip us))
    (ha : PA X [e] (tCons te tNil)) (hbody : ∀ (A : Around) (outer : List Env) (s : Shared) (H : Hp) (E : XK) (f c' : Addr), PE (cxOf CX0 X.prog X.w X.K X.mg X.base N (X.env.qual ++ "<lambda>") scope f (.ref c') A outer s H E) body tk)
    (hst : backTo pos (starEach [e] X.env) = (false, eval e X.env) :: backTo pos (starEach [] X.env) := by rfl) (hpl : (backTo pos (starEach [e] X.env)).any (·.1) = false := by rfl) :
    PE X (.Call (.Name "sorted" p) [e] [⟨some "key", .Lambda params body scope lpos, kpos⟩] pos) (tSortLam X.K T N tk te) := by
  refine ⟨fun pins s0 σ H0 Q I0 h => ?_⟩
  refine wpAny_Call_Name_kw (ld_blt I0 hg hm (show bootBuiltins "sorted" = some (.builtin "sorted") by decide +kernel) ?_ (by decide) (by decide))
  refine PyProof.Rows.callWith_kw (thn (ha.run pos pins s0 σ H0 (fun vs H1 => match vs with | [x] => SortLamQ X.K T N tk Q x H1 | _ => False) I0 h) fun us s h2 => ?kw) hst hpl rfl rfl
  case kw =>
    obtain ⟨vs, H, I, rv, q⟩ := h2
    obtain ⟨x, rfl⟩ : ∃ x, vs = [x] := by
      match vs, q with
      | [x], _ => exact ⟨x, rfl⟩
    obtain ⟨a0, xs, kk, rfl, hs, hrf, hT, hk, hq⟩ := (show SortLamQ X.K T N tk Q x H from q)
    obtain ⟨u0, rfl, ru⟩ := vals1 rv
    obtain rfl : u0 = Value.ref a0 := ru
    show wpAny _ _ (evalAll [(do let v ← eval (.Lambda params body scope lpos) X.env; standAt pos; pure v)]) _ _ s
    refine wpAny_evalAll_cons (wpAny_bind (LamX.lam_make2 I TB hcode hmT hu hT hdef (fun y hy e0 => ?_) fun f c' pm ctv H1 s1 I1 eN T1 hf hfn hfr hco => wpAny_bind (wpAny_standAt (wpAny_pure ?_))))
    · exact absurd e0 (S.nofree y hy)
    refine wpAny_evalAll_nil ?_
    show wpAny _ _ (call (.builtin "sorted") [.ref a0] [(Str.ofString "key", .ref f)]) _ _ s1
    rw [hclo] at hf
    have hs1 : SqL X.K H1 a0 xs := by
      rcases hs with (z | ⟨o, z⟩) | z
      · exact .inl (.inl (eN _ _ z (fun ps e => by cases e)))
      · exact .inl (.inr ⟨o, eN _ _ z (fun ps e => by cases e)⟩)
      · exact .inr z
    obtain ⟨its, rvs, hl, hz⟩ := I1.list hs1
    obtain ⟨e1, e2⟩ := refs_back rvs hrf
    have xlen : its.length = xs.length := rvs.length.symm
    have nofr : ∀ b, s1.heap.objs.size ≤ b → b ∉ frs X.stack := fun b hb z => by
      rcases List.mem_cons.mp (I1.stkSub _ z) with e | e
      · have h1 := I1.lt
        rw [← e] at h1
        exact Nat.lt_irrefl _ (Nat.lt_of_lt_of_le h1 hb)
      · exact I1.nofs hb e
    refine sorted_key (KeyJ X H1 s1 kk xs) hl.isList (by rw [xlen]; exact hz) ?start ?turn ?done
    case start =>
      intro a kS h e1' kp ha hkS hne ho1 ho2
      refine ⟨H1, rfl, I1.bare, Un.kept kp, I1.hok.kept kp, fun _ _ z => z, I1.hok.fresh ha, I1.hok.fresh hkS, ha, hkS, Nat.zero_le _, fun i u z => ?_⟩
      simp at z
    case turn =>
      rintro a kS e e1' ks u s' hu' ⟨H', os, bare, un, hok, ext, na, nk, ha, hkS, hle, hkeys⟩ hne ho1 ho2
      obtain ⟨y, hy, ry⟩ : ∃ y, xs[ks.length]? = some y ∧ RelV y u := by
        have hlt : ks.length < xs.length := by
          rw [← xlen]
          exact (List.getElem?_eq_some_iff.mp hu').1
        obtain ⟨u2, q1, q2⟩ := rvs.get (List.getElem?_eq_getElem hlt)
        rw [hu'] at q1
        cases q1
        exact ⟨_, List.getElem?_eq_getElem hlt, q2⟩
      have ym : y ∈ xs := List.mem_of_getElem? hy
      have I2 : Inv X pins σ H' s' := I1.call' (ch := []) os un hok bare fun b z => absurd z (by simp)
      have e0 := (I2.env0.in1).in1
      have of1 : s'.heap.get? f = _ := un.keep f _ hf hfn hfr (by simp)
      have eN2 : LamX.ExtN H H' := eN.trans fun b o z _ => ext b o z
      have rc : codeAny (model X.prog X.w) X.A.in1.in1 (.call (.ref f) ⟨[u], []⟩) (CR CX0 X.stack X.prog X.w H' s' (fun v H3 => ∃ p, v = V.ref p ∧ H' p = none ∧ H3 = upd H' p (.tup [.int (kk y).1, .str (kk y).2])) E0) s' :=
        lam_run (N := N) (ps := ps) (us := [u]) (vs := [y]) of1 S (hbind _ _ _ _ _ rfl) (hr.in1.in1 : Room (k + 1) X.A.in1.in1) e0 (ext _ _ hco) (.cons ry .nil) h1.symm (hbody _ _ _ _ _ _ _) (hk y ym H' eN2 _ fun p hp => ⟨p, rfl, hp, rfl⟩)
      refine wpAny_call (codeAny_mono rc fun r s2 hr2 => ?_)
      cases r with
      | error e => exact (show False from hr2).elim
      | ok fl =>
        cases fl with
        | next => exact False.elim hr2
        | brk => exact False.elim hr2
        | cont => exact False.elim hr2
        | ret v =>
          obtain ⟨v', H3, os2, bare2, un2, hok2, r2, p, rfl, np, rfl⟩ := hr2
          obtain rfl : v = Value.ref p := r2
          have kk1 := un2.keep kS _ ho1 nk (nofr _ hkS) (by simp)
          have kk2 := un2.keep a _ ho2 na (nofr _ ha) (by simp)
          have n1 := un2.free kS _ ho1 nk (by simp)
          have n2 := un2.free a _ ho2 na (by simp)
          have ext3 : ∀ b o, H' b = some o → upd H' p (.tup [.int (kk y).1, .str (kk y).2]) b = some o := fun b o z => by
            rw [upd_ne (ne_of_none z np)]
            exact z
          refine ⟨kk1, kk2, fun h3 k3 => ⟨upd H' p (.tup [.int (kk y).1, .str (kk y).2]), os2.trans os, bare2, un_but (un.trans un2) fun b o hb q => k3 b o (fun z => by rw [z] at hb; exact Nat.lt_irrefl _ (Nat.lt_of_lt_of_le hb hkS)) q, hok_but hok2 fun b o hb q => k3 b o (fun z => hb (by rw [z]; exact n1)) q,
            fun b o z => ext3 b o (ext b o z), n2, n1, ha, hkS, ?_, fun i w hi => ?_⟩⟩
          · rw [List.length_append, List.length_singleton]
            exact (List.getElem?_eq_some_iff.mp hy).1
          · by_cases hlt : i < ks.length
            · rw [List.getElem?_append_left hlt] at hi
              obtain ⟨p', y', q1, q2, q3⟩ := hkeys i w hi
              exact ⟨p', y', q1, q2, ext3 _ _ q3⟩
            · rw [List.getElem?_append_right (by omega)] at hi
              have ei : i - ks.length = 0 := by
                have := (List.getElem?_eq_some_iff.mp hi).1
                simp at this
                omega
              rw [ei] at hi
              have : w = Value.ref p := by simpa using hi.symm
              subst this
              have e3 : i = ks.length := by omega
              rw [e3]
              exact ⟨p, y, rfl, hy, upd_same⟩
    case done =>
      rintro a kS e e1' ks s' ⟨H', os, bare, un, hok, ext, na, nk, ha, hkS, hle, hkeys⟩ hlen hne ho1 ho2
      have at_ : ∀ (i : Nat) (v : Value), ks[i]? = some v → ∃ y, xs[i]? = some y ∧ kvOf H' v = kk y ∧ IsT2 s'.heap v (kvOf H' v) [] := fun i v hi => by
        obtain ⟨p, y, rfl, q1, q2⟩ := hkeys i v hi
        have e3 := kvOf_at q2
        refine ⟨y, q1, e3, ?_⟩
        rw [e3]
        obtain ⟨_, its2, r2, o, ho, hc, n, hd⟩ := hok _ _ q2
        obtain ⟨u1, u2, rfl, ri, rj⟩ := vals2 r2
        obtain ⟨t1, rfl⟩ := ri
        obtain ⟨t2, rfl⟩ := rj
        exact ⟨p, o, t1, t2, n, rfl, ho, hc, hd⟩
      have tup : ∀ v ∈ ks, IsT2 s'.heap v (kvOf H' v) [] := fun v hv => by
        obtain ⟨i, hi⟩ := List.mem_iff_getElem?.mp hv
        obtain ⟨y, _, _, q⟩ := at_ i v hi
        exact q
      refine ⟨SrtO.lt2 fun v u => kLt (kvOf H' v) (kvOf H' u), SrtO.swo2 (kLt_swo fun v => kvOf H' v), fun h2 => ⟨tuples' true, fun Q2 E2 hq2 => ?_, t2_cmp (rest := fun _ => []) tup (fun _ _ _ z => absurd z (by simp)) fun _ _ _ _ _ => rfl⟩, fun ps h' c hs hb kp ho => ?_⟩
      · obtain ⟨fs, f1, f2, f3⟩ := t2_firsts (rest := fun _ => []) tup
        refine PySem.W.kat_kind (T := .type "int") f1 (by omega) (fun f hm => ?_) (by rfl) ?_
        · obtain ⟨x, t, rfl⟩ := f3 f hm
          exact PySem.W.Looks.now
        · have e : (Value.type "int" != Value.type "tuple") = true := by first | decide +kernel | rfl | decide
          rw [e]
          exact hq2
      · have pm : ∀ p ∈ ps, kvOf H' p.1 = kk (backV p.2) ∧ p.2 ∈ its := fun p hp => by
          obtain ⟨i, q1, q2⟩ := zip_get (hb.perm.mem_iff.mp hp)
          obtain ⟨y, q3, q4, _⟩ := at_ i _ q1
          rw [e1, List.getElem?_map, q2] at q3
          have q5 : backV p.2 = y := by simpa using q3
          rw [q5]
          exact ⟨q4, List.mem_of_getElem? q2⟩
        have outm : ∀ u ∈ ps.map (·.2), ∃ a, u = Value.ref a := fun u hu => by
          obtain ⟨p, hp, rfl⟩ := List.mem_map.mp hu
          exact e2 _ (pm p hp).2
        have perm : (ps.map (·.2)).Perm its := by
          have z := hb.perm.map (fun p : Keyed => p.2)
          rwa [List.map_snd_zip (by omega)] at z
        have permV : ((ps.map (·.2)).map backV).Perm xs := by
          rw [e1]
          exact perm.map backV
        have srt : SrtO.Srtd (fun x y => kLt (kk x) (kk y)) ((ps.map (·.2)).map backV) := by
          rw [List.map_map]
          refine List.pairwise_map.mpr ?_
          refine List.Pairwise.imp_of_mem (fun {p q} hp hq z => ?_) hs
          have z' : kLt (kvOf H' q.1) (kvOf H' p.1) = false := z
          rw [(pm p hp).1, (pm q hq).1] at z'
          exact z'
        have olen : ((ps.map (·.2)).map backV).length ≤ sizeLine := by
          rw [permV.length_eq]
          exact hz
        have kp' : ∀ b o, H' b ≠ none → s'.heap.get? b = some o → h'.get? b = some o := fun b o hb q => kp b o (fun z => hb (by rw [z]; exact na)) (fun z => hb (by rw [z]; exact nk)) q
        refine ⟨.ref a, upd H' a (.lst ((ps.map (·.2)).map backV)), ?_, rfl, hq _ a H' srt permV (eN.trans fun b o z _ => ext b o z) (T1.ext ext) na⟩
        refine I1.call' (ch := []) (s' := { s' with heap := h' }) os (un_late (un_but un fun b o hb q => kp b o (fun z => by rw [z] at hb; exact Nat.lt_irrefl _ (Nat.lt_of_lt_of_le hb ha)) (fun z => by rw [z] at hb; exact Nat.lt_irrefl _ (Nat.lt_of_lt_of_le hb hkS)) q) ha na)
          (hok_late (hok_but hok kp') na ⟨olen, _, c, vals_back outm, ho⟩) bare fun b z => absurd z (by simp)
end
end Sk
namespace Sk
open PySem PySem.Spec PyProof.Rows L2
theorem ne_of_none' {H : Hp} {a b : Addr} {o : HO} (h : upd H b o a = none) : a ≠ b := fun z => by
  rw [z, upd_same] at h
  cases h
/-! ### own functions by name -/
structure Fn (P : Program) (w : World) (K : PySem.W.Frag) (mg : Str → Option Value) (base : Heap) (x : Str) (k : Nat) (ps : List Str) (sp : Sp) : Prop where
  ex : ∃ (f : Addr) (fd : FuncData), FnOk P w K mg base CX0 k f fd ps sp ∧ mg x = some (.ref f) ∧ PySem.W.keepIn K (.ref f) = true ∧ Binds K fd ps []
/-- with keywords alone, n values written, the keywords ks -/
structure FnK (P : Program) (w : World) (K : PySem.W.Frag) (mg : Str → Option Value) (base : Heap) (x : Str) (k : Nat) (ps : List Str) (sp : Sp) (n : Nat) (ks : List Str) (gV : List V → List V → List V) : Prop where
  ex : ∃ (f : Addr) (fd : FuncData) (g : List Value → List Value → List Value), FnOk P w K mg base CX0 k f fd ps sp ∧ mg x = some (.ref f) ∧ PySem.W.keepIn K (.ref f) = true ∧ KBn K fd ps n ks g gV
section
variable {X : Cx} {x : Str} {k n : Nat} {ps ks : List Str} {sp : Sp} {gV : List V → List V → List V} {e : Expr} {es : List Expr} {t tk : TA} {kws : List Keyword} {p pos : Pos}
theorem pe_fn (F : Fn X.prog X.w X.K X.mg X.base x k ps sp) (hr : Room k X.A) (ha : PA X (e :: es) t) (hg : Gl X x := by rfl) (hdb : (x == ("__debug__" : Str)) = false := by decide)
    (he : starEach (e :: es) X.env = (false, eval e X.env) :: starEach es X.env := by rfl) (hpl : (backTo pos (starEach es X.env)).any (·.1) = false := by rfl) : PE X (.Call (.Name x p) (e :: es) [] pos) (tCall sp [] E0 t) := by
  obtain ⟨f, fd, F1, hm, hk, hb⟩ := F.ex
  exact pe_call F1 hr hg hm hk hb .nil pass0 ha hdb he hpl
theorem pe_fnK (F : FnK X.prog X.w X.K X.mg X.base x k ps sp n ks gV) (hr : Room k X.A) (ha : PA X (e :: es) t) (hkw : PK X kws tk) (hg : Gl X x := by rfl) (hdb : (x == ("__debug__" : Str)) = false := by decide)
    (hall : (backToKw pos (keywordEach kws X.env)).all (·.1.isSome) = true := by rfl) (hks : (backToKw pos (keywordEach kws X.env)).filterMap (·.1) = ks := by rfl)
    (he : starEach (e :: es) X.env = (false, eval e X.env) :: starEach es X.env := by rfl)
    (hpl : ((backTo pos (starEach (e :: es) X.env)).any (·.1) || (backToKw pos (keywordEach kws X.env)).any (·.1.isNone)) = false := by rfl) : PE X (.Call (.Name x p) (e :: es) kws pos) (tCallN n ks.length sp gV E0 t tk) := by
  obtain ⟨f, fd, g, F1, hm, hk, hb⟩ := F.ex
  exact pe_callN F1 hr hg hm hk hb pass0 ha hkw hall hks hdb he hpl
theorem pe_fnK0 (F : FnK X.prog X.w X.K X.mg X.base x k ps sp 0 ks gV) (hr : Room k X.A) (hkw : PK X kws tk) (hg : Gl X x := by rfl) (hdb : (x == ("__debug__" : Str)) = false := by decide)
    (hall : (backToKw pos (keywordEach kws X.env)).all (·.1.isSome) = true := by rfl) (hks : (backToKw pos (keywordEach kws X.env)).filterMap (·.1) = ks := by rfl)
    (hpl : ((backTo pos (starEach [] X.env)).any (·.1) || (backToKw pos (keywordEach kws X.env)).any (·.1.isNone)) = false := by rfl) : PE X (.Call (.Name x p) [] kws pos) (tCallN 0 ks.length sp gV E0 tNil tk) := by
  obtain ⟨f, fd, g, F1, hm, hk, hb⟩ := F.ex
  refine ⟨fun pins s σ H Q I h => ?_⟩
  refine wpAny_Call_Name_kw (ld_glob I hg hm ?_ hdb)
  refine PySem.W.callWith_KW0 (h₀ := X.base) I.ok.mod.kin hk hall ?_ hpl
  refine thn (hkw.run pos pins s σ H _ I h) fun ws s2 ⟨zs, H2, I2, rz, l1, l2, q2⟩ => ⟨I2.kIn, ?_⟩
  rw [hks]
  exact run_fnN (us := []) (vs := []) F1 hr hb pass0 I2 .nil rz rfl l2 q2
/-- constants of the module -/
theorem pe_gs {z : Str} (h : ∃ t, X.mg x = some (.str z t)) (hg : Gl X x := by rfl) (hd : (x == ("__debug__" : Str)) = false := by decide) : PE X (.Name x pos) (tC (.str z)) := by
  obtain ⟨t, e⟩ := h
  exact pe_glob hg e ⟨t, rfl⟩ hd
theorem pe_gi {z : Int} (h : ∃ t, X.mg x = some (.int z t)) (hg : Gl X x := by rfl) (hd : (x == ("__debug__" : Str)) = false := by decide) : PE X (.Name x pos) (tC (.int z)) := by
  obtain ⟨t, e⟩ := h
  exact pe_glob hg e ⟨t, rfl⟩ hd
end
/-! ### heaps -/
/-- a heap grows: all but tables stand, the tables T stay tables -/
structure Gr (T : List (Addr × Str)) (H H' : Hp) : Prop where
  ext : LamX.ExtN H H'
  tab : LamX.Tabs T H → LamX.Tabs T H'
theorem Gr.refl {T : List (Addr × Str)} (H : Hp) : Gr T H H := ⟨LamX.ExtN.refl H, id⟩
theorem Gr.trans {T : List (Addr × Str)} {H H1 H2 : Hp} (a : Gr T H H1) (b : Gr T H1 H2) : Gr T H H2 := ⟨a.ext.trans b.ext, fun t => b.tab (a.tab t)⟩
theorem Gr.same {T : List (Addr × Str)} {H H' : Hp} (s : Same H H') : Gr T H H' := ⟨LamX.ExtN.of s, fun t => t.ext s⟩
theorem Same.upd {H : Hp} {p : Addr} {o : HO} (h : H p = none) : Same H (upd H p o) := fun b u e => by
  rw [upd_ne (ne_of_none e h)]
  exact e
theorem Gr.new {T : List (Addr × Str)} {H : Hp} {p : Addr} {o : HO} (h : H p = none) : Gr T H (upd H p o) := Gr.same (Same.upd h)
/-- neither a table nor a code object -/
def NoTab (o : HO) : Prop := (∀ ps, o ≠ .tbl ps) ∧ ∀ f, o ≠ .ext f
theorem NoTab.lst {xs : List V} : NoTab (.lst xs) := ⟨(fun _ e => by cases e), (fun _ e => by cases e)⟩
theorem NoTab.tup {xs : List V} : NoTab (.tup xs) := ⟨(fun _ e => by cases e), (fun _ e => by cases e)⟩
theorem NoTab.dK {xs : List (Key × V)} : NoTab (.dK xs) := ⟨(fun _ e => by cases e), (fun _ e => by cases e)⟩
theorem NoTab.ins {C dx : Addr} {fs : List (Str × V)} : NoTab (.ins C dx fs) := ⟨(fun _ e => by cases e), (fun _ e => by cases e)⟩
theorem Gr.at {T : List (Addr × Str)} {H H' : Hp} {a : Addr} {o : HO} (g : Gr T H H') (h : H a = some o) (n : NoTab o) : H' a = some o := g.ext a o h n.1
theorem Gr.free {T : List (Addr × Str)} {H H' : Hp} {a : Addr} (g : Gr T H H') (h : H' a = none) (n : ∀ ps, H a ≠ some (.tbl ps)) : H a = none := by
  cases q : H a with
  | none => rfl
  | some o =>
    have := g.ext a o q (fun ps e => n ps (by rw [q, e]))
    rw [h] at this
    cases this
theorem Gr.ext_seq {T : List (Addr × Str)} {K : PySem.W.Frag} {H H' : Hp} {a : Addr} {xs : List V} (g : Gr T H H') (h : SqL K H a xs) : SqL K H' a xs := by
  rcases h with (z | ⟨o, z⟩) | z
  · exact .inl (.inl (g.ext _ _ z (fun ps e => by cases e)))
  · exact .inl (.inr ⟨o, g.ext _ _ z (fun ps e => by cases e)⟩)
  · exact .inr z
/-- nothing but a table stands there -/
def Nw (H : Hp) (a : Addr) : Prop := ∀ u, H a = some u → ∃ ps, u = .tbl ps
theorem Nw.of {H : Hp} {a : Addr} (h : H a = none) : Nw H a := fun u e => by
  rw [h] at e
  cases e
theorem Gr.nw {T : List (Addr × Str)} {H H' : Hp} {a : Addr} (g : Gr T H H') (h : Nw H' a) : Nw H a := fun u e => by
  cases u with
  | tbl ps => exact ⟨ps, rfl⟩
  | _ =>
    obtain ⟨ps, z⟩ := h _ (g.ext _ _ e (fun ps z => by cases z))
    cases z
/-- a cell that H does not know is written -/
theorem Gr.mut {T : List (Addr × Str)} {H H' : Hp} {a : Addr} {o0 o : HO} (g : Gr T H H') (h : Nw H a) (h0 : H' a = some o0) (nt : NoTab o0) : Gr T H (upd H' a o) := by
  refine ⟨fun b u e n => ?_, fun t p hp => ?_⟩
  · rw [upd_ne (fun z => by
      rw [z] at e
      obtain ⟨ps, q⟩ := h _ e
      exact n ps q)]
    exact g.ext b u e n
  · obtain ⟨ps, b1, b2, b3⟩ := g.tab t p hp
    have na : p.1 ≠ a := fun z => by
      rw [z, h0] at b1
      cases b1
      exact nt.1 ps rfl
    refine ⟨ps, by rw [upd_ne na]; exact b1, b2, fun po cv hc => ?_⟩
    obtain ⟨c', e1, e2⟩ := b3 po cv hc
    refine ⟨c', e1, ?_⟩
    rw [upd_ne (fun z => by
      rw [z, h0] at e2
      cases e2
      exact nt.2 _ rfl)]
    exact e2
/-- a frozen part of the heap -/
structure Fz (G H : Hp) : Prop where
  sub : Same G H
  nt : ∀ a o, G a = some o → NoTab o
theorem Fz.emp {H : Hp} : Fz (fun _ => none) H := ⟨(fun _ _ e => by cases e), (fun _ _ e => by cases e)⟩
theorem Fz.gr {T : List (Addr × Str)} {G H H' : Hp} (f : Fz G H) (g : Gr T H H') : Fz G H' := ⟨fun b o e => g.ext b o (f.sub b o e) (f.nt b o e).1, f.nt⟩
theorem Fz.free {G H : Hp} {a : Addr} (f : Fz G H) (h : H a = none) : G a = none := f.sub.free h
theorem Fz.put {G H : Hp} {a : Addr} {o : HO} (f : Fz G H) (h : G a = none) : Fz G (upd H a o) := ⟨fun b u e => by
  rw [upd_ne (ne_of_none e h)]
  exact f.sub b u e, f.nt⟩
/-- what stands at a is frozen -/
theorem Fz.add {G H : Hp} {a : Addr} {o : HO} (f : Fz G H) (h : H a = some o) (n : NoTab o) : Fz (upd G a o) H := ⟨fun b u e => by
  by_cases hb : b = a
  · rw [hb] at e ⊢
    rw [upd_same] at e
    cases e
    exact h
  · rw [upd_ne hb] at e
    exact f.sub b u e, fun b u e => by
  by_cases hb : b = a
  · rw [hb, upd_same] at e
    cases e
    exact n
  · rw [upd_ne hb] at e
    exact f.nt b u e⟩
theorem Tabs.upd {T : List (Addr × Str)} {H : Hp} {d : Addr} {u o : HO} (t : LamX.Tabs T H) (h : H d = some u) (nt : NoTab u) : LamX.Tabs T (upd H d o) := fun p hp => by
  obtain ⟨ps, b1, b2, b3⟩ := t p hp
  have na : p.1 ≠ d := fun z => by
    rw [z, h] at b1
    cases b1
    exact nt.1 ps rfl
  refine ⟨ps, by rw [upd_ne na]; exact b1, b2, fun po cv hc => ?_⟩
  obtain ⟨c', e1, e2⟩ := b3 po cv hc
  refine ⟨c', e1, ?_⟩
  rw [upd_ne (fun z => by
    rw [z, h] at e2
    cases e2
    exact nt.2 _ rfl)]
  exact e2
theorem NoTab.frz {o : Obj} {u : HO} : NoTab (.frz o u) := ⟨(fun _ e => by cases e), (fun _ e => by cases e)⟩
/-- a cell was locked meanwhile -/
theorem Gr.unlock {T : List (Addr × Str)} {H H' : Hp} {d : Addr} {od : Obj} {u : HO} (hd : H d = some u) (nt : NoTab u) (g : Gr T (L2.upd H d (.frz od u)) H') (hd' : H' d = some (.frz od u)) : Gr T H (L2.upd H' d u) := by
  refine ⟨fun b o e n => ?_, fun t => Tabs.upd (g.tab (Tabs.upd t hd nt)) hd' .frz⟩
  by_cases hb : b = d
  · rw [hb, hd] at e
    cases e
    rw [hb, upd_same]
  · rw [upd_ne hb]
    exact g.ext b o (by rw [upd_ne hb]; exact e) n
/-! ### the source of draws -/
/-- the source at p, its digits at q; drawn at most n times from the mixed sequence -/
def SrcAt (p q : Addr) (n : Nat) (H : Hp) : Prop := ∃ (ds : List Int) (x m c : Int), H p = some (.lst [.ref q, .int x, .int m, .int c]) ∧ H q = some (.lst (ds.map V.int)) ∧ (∀ d ∈ ds, 0 ≤ d) ∧ 0 ≤ x ∧ 0 ≤ m ∧ m < 2305843009213693951 ∧ 0 ≤ c ∧ c ≤ n
/-- the source, the cells L that may change, the frozen part G -/
structure Hs (T : List (Addr × Str)) (p : Addr) (n : Nat) (L : List (Addr × HO)) (G H : Hp) : Prop where
  src : ∃ q, SrcAt p q n H ∧ G q = none ∧ q ≠ p ∧ ∀ x ∈ L, x.1 ≠ q
  fz : Fz G H
  gp : G p = none
  cel : ∀ x ∈ L, H x.1 = some x.2 ∧ G x.1 = none ∧ x.1 ≠ p ∧ NoTab x.2
  nod : (L.map (·.1)).Nodup
  tab : LamX.Tabs T H
section
variable {T : List (Addr × Str)} {p : Addr} {n : Nat} {L : List (Addr × HO)} {G H H' : Hp}
theorem SrcAt.mono {q : Addr} {m : Nat} (s : SrcAt p q n H) (h : n ≤ m) : SrcAt p q m H := by
  obtain ⟨ds, x, mm, c, h1, h2, h3, h4, h5, h6, h7, h8⟩ := s
  exact ⟨ds, x, mm, c, h1, h2, h3, h4, h5, h6, h7, by omega⟩
theorem Hs.mono {m : Nat} (s : Hs T p n L G H) (h : n ≤ m) : Hs T p m L G H := by
  obtain ⟨⟨q, a, b⟩, c, d, e, f, g⟩ := s
  exact ⟨⟨q, a.mono h, b⟩, c, d, e, f, g⟩
/-- all that stood stands -/
theorem Hs.gr (s : Hs T p n L G H) (g : Gr T H H') : Hs T p n L G H' := by
  obtain ⟨⟨q, ⟨ds, x, m, c, h1, h2, h3⟩, b⟩, fz, gp, cel, nod, tab⟩ := s
  exact ⟨⟨q, ⟨ds, x, m, c, g.at h1 .lst, g.at h2 .lst, h3⟩, b⟩, fz.gr g, gp, fun x hx => ⟨g.at (cel x hx).1 (cel x hx).2.2.2, (cel x hx).2⟩, nod, g.tab tab⟩
/-- a new cell -/
theorem Hs.new {a : Addr} {o : HO} (s : Hs T p n L G H) (h : H a = none) (nt : NoTab o) : Hs T p n ((a, o) :: L) G (upd H a o) := by
  have s2 := s.gr (Gr.new (o := o) h)
  obtain ⟨⟨q, a1, a2, a3, a4⟩, fz, gp, cel, nod, tab⟩ := s
  obtain ⟨ds, x, m, c, h1, h2, h3⟩ := a1
  refine ⟨⟨q, ⟨ds, x, m, c, ?_, ?_, h3⟩, a2, a3, fun y hy => ?_⟩, s2.fz, gp, fun y hy => ?_, ?_, s2.tab⟩
  · rw [upd_ne (ne_of_none h1 h)]
    exact h1
  · rw [upd_ne (ne_of_none h2 h)]
    exact h2
  · rcases List.mem_cons.mp hy with rfl | hy
    · exact (ne_of_none h2 h).symm
    · exact a4 y hy
  · rcases List.mem_cons.mp hy with rfl | hy
    · exact ⟨upd_same, fz.free h, (ne_of_none h1 h).symm, nt⟩
    · exact s2.cel y hy
  · rw [List.map_cons, List.nodup_cons]
    refine ⟨fun hm => ?_, nod⟩
    obtain ⟨y, hy, e⟩ := List.mem_map.mp hm
    have := (cel y hy).1
    rw [e, h] at this
    cases this
/-- what stands at the i-th cell -/
theorem Hs.get {i : Nat} {a : Addr} {o : HO} (s : Hs T p n L G H) (h : L[i]? = some (a, o)) : H a = some o := (s.cel (a, o) (List.mem_of_getElem? h)).1
/-- the i-th cell is written -/
theorem Hs.put {i : Nat} {a : Addr} {o o' : HO} (s : Hs T p n L G H) (h : L[i]? = some (a, o)) (nt : NoTab o') : Hs T p n (L.set i (a, o')) G (upd H a o') := by
  have hm := List.mem_of_getElem? h
  obtain ⟨⟨q, ⟨ds, x, m, c, h1, h2, h3⟩, a2, a3, a4⟩, fz, gp, cel, nod, tab⟩ := s
  obtain ⟨c1, c2, c3, c4⟩ := cel _ hm
  have hi : i < L.length := (List.getElem?_eq_some_iff.mp h).1
  have ei : L[i] = (a, o) := (List.getElem?_eq_some_iff.mp h).2
  have sub : ∀ y ∈ L.set i (a, o'), y = (a, o') ∨ (y ∈ L ∧ y.1 ≠ a) := fun y hy => by
    obtain ⟨j, hj, ej⟩ := List.mem_iff_getElem.mp hy
    by_cases hij : i = j
    · subst hij
      rw [List.getElem_set_self] at ej
      exact .inl ej.symm
    · rw [List.getElem_set_ne hij] at ej
      refine .inr ⟨by rw [← ej]; exact List.getElem_mem _, fun z => hij ?_⟩
      rw [List.length_set] at hj
      have q1 : (L.map (·.1))[i]'(by rw [List.length_map]; exact hi) = (L.map (·.1))[j]'(by rw [List.length_map]; exact hj) := by
        rw [List.getElem_map, List.getElem_map, ei, ej, z]
      exact (List.getElem_inj nod).mp q1
  refine ⟨⟨q, ⟨ds, x, m, c, ?_, ?_, h3⟩, a2, a3, fun y hy => ?_⟩, fz.put c2, gp, fun y hy => ?_, ?_, fun t ht => ?_⟩
  · rw [upd_ne (Ne.symm c3)]
    exact h1
  · rw [upd_ne (Ne.symm (show a ≠ q from a4 _ hm))]
    exact h2
  · rcases sub y hy with rfl | ⟨hy, _⟩
    · exact (a4 _ hm : a ≠ q)
    · exact a4 y hy
  · rcases sub y hy with rfl | ⟨hy, z⟩
    · exact ⟨upd_same, c2, c3, nt⟩
    · rw [upd_ne z]
      exact cel y hy
  · rw [List.map_set]
    have : (L.map (·.1)).set i a = L.map (·.1) := by
      have e2 : (L.map (·.1))[i]'(by rw [List.length_map]; exact hi) = a := by rw [List.getElem_map, ei]
      conv => rhs; rw [← List.set_getElem_self (as := L.map (·.1)) (i := i) (by rw [List.length_map]; exact hi)]
      rw [e2]
    show ((L.map (·.1)).set i a).Nodup
    rw [this]
    exact nod
  · obtain ⟨ps, b1, b2, b3⟩ := tab t ht
    have na : t.1 ≠ a := fun z => by
      rw [z, c1] at b1
      cases b1
      exact c4.1 ps rfl
    refine ⟨ps, by rw [upd_ne na]; exact b1, b2, fun po cv hc => ?_⟩
    obtain ⟨c', e1, e2⟩ := b3 po cv hc
    refine ⟨c', e1, ?_⟩
    by_cases hca : c' = a
    · exfalso
      rw [hca, c1] at e2
      cases e2
      exact c4.2 _ rfl
    · rw [upd_ne hca]
      exact e2
/-- fewer cells -/
theorem Hs.sub {L' : List (Addr × HO)} (s : Hs T p n L G H) (h : L'.Sublist L) : Hs T p n L' G H := by
  obtain ⟨⟨q, a, b, c, d⟩, fz, gp, cel, nod, tab⟩ := s
  exact ⟨⟨q, a, b, c, fun x hx => d x (h.subset hx)⟩, fz, gp, fun x hx => cel x (h.subset hx), nod.sublist (h.map _), tab⟩
/-- the first cell is frozen -/
theorem Hs.freeze {a : Addr} {o : HO} (s : Hs T p n ((a, o) :: L) G H) : Hs T p n L (upd G a o) H := by
  obtain ⟨⟨q, h1, h2, h3, h4⟩, fz, gp, cel, nod, tab⟩ := s
  obtain ⟨c1, c2, c3, c4⟩ := cel _ (List.mem_cons_self ..)
  rw [List.map_cons, List.nodup_cons] at nod
  refine ⟨⟨q, h1, ?_, h3, fun x hx => h4 x (List.mem_cons_of_mem _ hx)⟩, fz.add c1 c4, ?_, fun x hx => ?_, nod.2, tab⟩
  · rw [upd_ne (Ne.symm (show a ≠ q from h4 _ (List.mem_cons_self ..)))]
    exact h2
  · rw [upd_ne (Ne.symm c3)]
    exact gp
  · obtain ⟨d1, d2, d3, d4⟩ := cel x (List.mem_cons_of_mem _ hx)
    refine ⟨d1, ?_, d3, d4⟩
    rw [upd_ne (fun z => nod.1 (List.mem_map.mpr ⟨x, hx, z⟩))]
    exact d2
/-- the heap grew, and at a new place stands o -/
theorem Hs.grow {a : Addr} {o : HO} (s : Hs T p n L G H) (g : Gr T H H') (h : Nw H a) (e : H' a = some o) (nt : NoTab o) : Hs T p n ((a, o) :: L) G H' := by
  have s2 := s.gr g
  have no : ∀ u, H a = some u → ¬ NoTab u := fun u hu n2 => by
    obtain ⟨ps, z⟩ := h u hu
    exact n2.1 ps z
  obtain ⟨⟨q, ⟨ds, x, m, c, h1, h2, _⟩, a2, a3, a4⟩, fz, gp, cel, nod, tab⟩ := s
  obtain ⟨⟨q', b1, b2, b3, b4⟩, fz', _, cel', _, tab'⟩ := s2
  refine ⟨⟨q', b1, b2, b3, fun y hy => ?_⟩, fz', gp, fun y hy => ?_, ?_, tab'⟩
  · rcases List.mem_cons.mp hy with rfl | hy
    · intro z
      obtain ⟨ds', x', m', c', k1, k2, _⟩ := b1
      have e1 := g.at h1 .lst
      rw [k1] at e1
      cases e1
      exact no _ (by rw [show a = q from z]; exact h2) .lst
    · exact b4 y hy
  · rcases List.mem_cons.mp hy with rfl | hy
    · refine ⟨e, ?_, fun z => ?_, nt⟩
      · cases q0 : G a with
        | none => rfl
        | some u => exact absurd (fz.nt a u q0) (no u (fz.sub a u q0))
      · exact no _ (by rw [show a = p from z]; exact h1) .lst
    · exact cel' y hy
  · rw [List.map_cons, List.nodup_cons]
    refine ⟨fun hm => ?_, nod⟩
    obtain ⟨y, hy, e2⟩ := List.mem_map.mp hm
    obtain ⟨c1, _, _, c4⟩ := cel y hy
    rw [e2] at c1
    exact no _ c1 c4
/-- the first cell is left alone -/
theorem Hs.drop1 {c : Addr × HO} (s : Hs T p n (c :: L) G H) : Hs T p n L G H := s.sub (.cons _ (.refl _))
/-- the second cell is left alone -/
theorem Hs.drop2 {c d : Addr × HO} (s : Hs T p n (c :: d :: L) G H) : Hs T p n (c :: L) G H := s.sub (.cons₂ _ (.cons _ (.refl _)))
/-- the second cell first -/
theorem Hs.swap {c d : Addr × HO} (s : Hs T p n (c :: d :: L) G H) : Hs T p n (d :: c :: L) G H := by
  obtain ⟨⟨q, b1, b2, b3, b4⟩, fz, gp, cel, nod, tab⟩ := s
  have pm : (d :: c :: L).Perm (c :: d :: L) := .swap ..
  exact ⟨⟨q, b1, b2, b3, fun x hx => b4 x (pm.mem_iff.mp hx)⟩, fz, gp, fun x hx => cel x (pm.mem_iff.mp hx), (pm.map _).nodup_iff.mpr nod, tab⟩
/-- what is frozen stands -/
theorem Hs.fzat {a : Addr} {o : HO} (s : Hs T p n L G H) (h : G a = some o) : H a = some o := s.fz.sub _ _ h
theorem Hs.gfree {a : Addr} (s : Hs T p n L G H) (h : H a = none) : G a = none := s.fz.free h
theorem Hs.cfree {c : Addr × HO} (s : Hs T p n (c :: L) G H) : G c.1 = none := (s.cel c (List.mem_cons_self ..)).2.1
/-- all tuples are frozen -/
def fzT (G H : Hp) : Hp := fun b => match G b with
  | some o => some o
  | none => match H b with
    | some (.tup zs) => some (.tup zs)
    | _ => none
theorem fzT_old {b : Addr} {o : HO} (h : G b = some o) : fzT G H b = some o := by
  unfold fzT
  rw [h]
theorem fzT_tup {b : Addr} {zs : List V} (f : Fz G H) (h : H b = some (.tup zs)) : fzT G H b = some (.tup zs) := by
  unfold fzT
  cases q : G b with
  | some o =>
    have := f.sub b o q
    rw [h] at this
    cases this
    rfl
  | none => simp only [h]
theorem fzT_cases {b : Addr} {o : HO} (h : fzT G H b = some o) : G b = some o ∨ (H b = some o ∧ ∃ zs, o = .tup zs) := by
  unfold fzT at h
  cases q : G b with
  | some u =>
    rw [q] at h
    exact .inl h
  | none =>
    rw [q] at h
    cases q2 : H b with
    | none => rw [q2] at h; cases h
    | some u =>
      rw [q2] at h
      cases u with
      | tup zs =>
        cases h
        exact .inr ⟨rfl, zs, rfl⟩
      | _ => cases h
theorem fzT_none {b : Addr} (h : G b = none) (n : ∀ zs, H b ≠ some (.tup zs)) : fzT G H b = none := by
  cases q : fzT G H b with
  | none => rfl
  | some o =>
    rcases fzT_cases q with z | ⟨z, zs, e⟩
    · rw [h] at z
      cases z
    · exact absurd (e ▸ z) (n zs)
theorem Hs.fzTup (s : Hs T p n L G H) (hL : ∀ x ∈ L, ∀ zs, x.2 ≠ .tup zs) : Hs T p n L (fzT G H) H := by
  obtain ⟨⟨q, a, b1, b2, b3⟩, fz, gp, cel, nod, tab⟩ := s
  obtain ⟨ds, x, m, c, h1, h2, h3⟩ := id a
  refine ⟨⟨q, a, fzT_none b1 (fun zs z => by rw [h2] at z; cases z), b2, b3⟩, ⟨fun b o e => ?_, fun b o e => ?_⟩, fzT_none gp (fun zs z => by rw [h1] at z; cases z), fun y hy => ?_, nod, tab⟩
  · rcases fzT_cases e with z | ⟨z, _⟩
    · exact fz.sub b o z
    · exact z
  · rcases fzT_cases e with z | ⟨_, zs, z⟩
    · exact fz.nt b o z
    · rw [z]
      exact .tup
  · obtain ⟨c1, c2, c3⟩ := cel y hy
    exact ⟨c1, fzT_none c2 (fun zs z => hL y hy zs (Option.some.inj (c1.symm.trans z))), c3⟩
/-- less is frozen -/
theorem Hs.less {G0 : Hp} (s : Hs T p n L G H) (h : Same G0 G) : Hs T p n L G0 H := by
  obtain ⟨⟨q, a, b1, b2, b3⟩, fz, gp, cel, nod, tab⟩ := s
  exact ⟨⟨q, a, h.free b1, b2, b3⟩, ⟨fun b o e => fz.sub b o (h b o e), fun b o e => fz.nt b o (h b o e)⟩, h.free gp, fun y hy => ⟨(cel y hy).1, h.free (cel y hy).2.1, (cel y hy).2.2⟩, nod, tab⟩
/-- a frozen cell is written -/
theorem Hs.fput {l : Addr} {o o' : HO} (s : Hs T p n L G H) (h : G l = some o) (nt : NoTab o') : Hs T p n L (upd G l o') (upd H l o') := by
  obtain ⟨⟨q, ⟨ds, x, m, c, h1, h2, h3⟩, b1, b2, b3⟩, fz, gp, cel, nod, tab⟩ := s
  have lp : p ≠ l := fun z => by rw [z, h] at gp; cases gp
  have lq : q ≠ l := fun z => by rw [z, h] at b1; cases b1
  refine ⟨⟨q, ⟨ds, x, m, c, by rw [upd_ne lp]; exact h1, by rw [upd_ne lq]; exact h2, h3⟩, by rw [upd_ne lq]; exact b1, b2, b3⟩, ⟨fun b u e => ?_, fun b u e => ?_⟩, by rw [upd_ne lp]; exact gp, fun y hy => ?_, nod, Tabs.upd tab (fz.sub _ _ h) (fz.nt _ _ h)⟩
  · by_cases hb : b = l
    · rw [hb, upd_same] at e ⊢
      exact e
    · rw [upd_ne hb] at e ⊢
      exact fz.sub b u e
  · by_cases hb : b = l
    · rw [hb, upd_same] at e
      cases e
      exact nt
    · rw [upd_ne hb] at e
      exact fz.nt b u e
  · obtain ⟨c1, c2, c3⟩ := cel y hy
    have ly : y.1 ≠ l := fun z => by rw [z, h] at c2; cases c2
    rw [upd_ne ly, upd_ne ly]
    exact ⟨c1, c2, c3⟩
end
end Sk
namespace Sk
open PySem PySem.Spec PyProof.Rows L2
/-! ### catalogues -/
structure Ent where
  name : Str
  w : Int
  parts : List Str
/-- an entry: a tuple of a name, a weight and a list of names -/
def EntAt (G : Hp) (v : V) (e : Ent) : Prop := ∃ t l, v = .ref t ∧ G t = some (.tup [.str e.name, .int e.w, .ref l]) ∧ G l = some (.lst (e.parts.map V.str))
abbrev CatAt (G : Hp) (vs : List V) (es : List Ent) : Prop := Paired (EntAt G) vs es
theorem EntAt.mono {G G' : Hp} {v : V} {e : Ent} (h : EntAt G v e) (s : Same G G') : EntAt G' v e := by
  obtain ⟨t, l, a, b, c⟩ := h
  exact ⟨t, l, a, s _ _ b, s _ _ c⟩
theorem CatAt.mono {G G' : Hp} (s : Same G G') : ∀ {vs : List V} {es : List Ent}, CatAt G vs es → CatAt G' vs es
  | _, _, .nil => .nil
  | _, _, .cons h t => .cons (h.mono s) (CatAt.mono s t)
theorem EntAt.gr {Tb : List (Addr × Str)} {G G' : Hp} {v : V} {e : Ent} (h : EntAt G v e) (s : Gr Tb G G') : EntAt G' v e := by
  obtain ⟨t, l, a, b, c⟩ := h
  exact ⟨t, l, a, s.at b .tup, s.at c .lst⟩
theorem CatAt.gr {Tb : List (Addr × Str)} {G G' : Hp} (s : Gr Tb G G') : ∀ {vs : List V} {es : List Ent}, CatAt G vs es → CatAt G' vs es
  | _, _, .nil => .nil
  | _, _, .cons h t => .cons (h.gr s) (CatAt.gr s t)
section
variable {α β : Type} {R : α → β → Prop}
theorem Paired.len : ∀ {xs : List α} {ys : List β}, Paired R xs ys → xs.length = ys.length
  | _, _, .nil => rfl
  | _, _, .cons _ t => by rw [List.length_cons, List.length_cons, Paired.len t]
theorem Paired.at : ∀ {xs : List α} {ys : List β} {i : Nat} {x : α}, Paired R xs ys → xs[i]? = some x → ∃ y, ys[i]? = some y ∧ R x y
  | _, _, _, _, .nil, e => by simp at e
  | _, _, 0, _, .cons h _, e => by simp at e; subst e; exact ⟨_, rfl, h⟩
  | _, _, i + 1, x, .cons _ t, e => by
    obtain ⟨y, h1, h2⟩ := Paired.at (i := i) (x := x) t (by simpa using e)
    exact ⟨y, by simpa using h1, h2⟩
theorem Paired.at2 : ∀ {xs : List α} {ys : List β} {i : Nat} {y : β}, Paired R xs ys → ys[i]? = some y → ∃ x, xs[i]? = some x ∧ R x y
  | _, _, _, _, .nil, e => by simp at e
  | _, _, 0, _, .cons h _, e => by simp at e; subst e; exact ⟨_, rfl, h⟩
  | _, _, i + 1, y, .cons _ t, e => by
    obtain ⟨x, h1, h2⟩ := Paired.at2 (i := i) (y := y) t (by simpa using e)
    exact ⟨x, by simpa using h1, h2⟩
theorem Paired.snoc {x : α} {y : β} (h : R x y) : ∀ {xs : List α} {ys : List β}, Paired R xs ys → Paired R (xs ++ [x]) (ys ++ [y])
  | _, _, .nil => .cons h .nil
  | _, _, .cons a t => .cons a (Paired.snoc h t)
theorem Paired.app : ∀ {xs xs' : List α} {ys ys' : List β}, Paired R xs ys → Paired R xs' ys' → Paired R (xs ++ xs') (ys ++ ys')
  | _, _, _, _, .nil, s => s
  | _, _, _, _, .cons a t, s => .cons a (Paired.app t s)
theorem Paired.perm {xs xs' : List α} (p : xs'.Perm xs) : ∀ {ys : List β}, Paired R xs ys → ∃ ys', ys'.Perm ys ∧ Paired R xs' ys' := by
  induction p with
  | nil => intro ys h; exact ⟨ys, .refl _, h⟩
  | cons x _ ih =>
    intro ys h
    cases h with
    | cons a t =>
      obtain ⟨ys', p', h'⟩ := ih t
      exact ⟨_ :: ys', p'.cons _, .cons a h'⟩
  | swap x y l =>
    intro ys h
    cases h with
    | cons a t =>
      cases t with
      | cons b t => exact ⟨_, List.Perm.swap .., .cons b (.cons a t)⟩
  | trans _ _ ih1 ih2 =>
    intro ys h
    obtain ⟨y1, p1, h1⟩ := ih2 h
    obtain ⟨y2, p2, h2⟩ := ih1 h1
    exact ⟨y2, p2.trans p1, h2⟩
theorem Paired.map_left {γ : Type} {f : γ → α} : ∀ {xs : List γ} {ys : List β}, Paired R (xs.map f) ys → Paired (fun c => R (f c)) xs ys
  | [], _, h => by cases h; exact .nil
  | x :: xs, _, h => by
    cases h with
    | cons a t => exact .cons a (Paired.map_left t)
theorem Paired.imp {R' : α → β → Prop} (f : ∀ a b, R a b → R' a b) : ∀ {xs : List α} {ys : List β}, Paired R xs ys → Paired R' xs ys
  | _, _, .nil => .nil
  | _, _, .cons a t => .cons (f _ _ a) (Paired.imp f t)
theorem Paired.left {xs : List α} {ys : List β} (h : Paired R xs ys) {x : α} (hx : x ∈ xs) : ∃ y ∈ ys, R x y := by
  obtain ⟨i, hi⟩ := List.mem_iff_getElem?.mp hx
  obtain ⟨y, h1, h2⟩ := Paired.at h hi
  exact ⟨y, List.mem_of_getElem? h1, h2⟩
theorem Paired.right {xs : List α} {ys : List β} (h : Paired R xs ys) {y : β} (hy : y ∈ ys) : ∃ x ∈ xs, R x y := by
  obtain ⟨i, hi⟩ := List.mem_iff_getElem?.mp hy
  obtain ⟨x, h1, h2⟩ := Paired.at2 h hi
  exact ⟨x, List.mem_of_getElem? h1, h2⟩
end
/-! ### dicts of numbers -/
abbrev Num := List (Str × Int)
def dS (d : Num) : List (Key × V) := d.map fun q => (Sum.inr q.1, V.int q.2)
def get? (d : Num) (x : Str) : Option Int := (d.find? fun q => decide (q.1 = x)).map (·.2)
def getD (d : Num) (x : Str) : Int := (get? d x).getD 0
def put (d : Num) (x : Str) (i : Int) : Num := if (d.any fun q => decide (q.1 = x)) = true then d.map (fun q => if q.1 = x then (q.1, i) else q) else d ++ [(x, i)]
theorem inr_dec (a b : Str) : decide ((Sum.inr a : Key) = Sum.inr b) = decide (a = b) := key_rr a b
theorem valV_dS (d : Num) (x : Str) : valV (dS d) (Sum.inr x) = (get? d x).map V.int := by
  unfold dS valV get?
  rw [List.find?_map]
  have : ((fun kv : Key × V => decide (kv.1 = Sum.inr x)) ∘ fun q : Str × Int => ((Sum.inr q.1 : Key), V.int q.2)) = fun q => decide (q.1 = x) := by
    funext q
    exact inr_dec _ _
  rw [this]
  cases d.find? fun q => decide (q.1 = x) <;> rfl
theorem putK_dS (d : Num) (x : Str) (i : Int) : putK (dS d) (Sum.inr x) (.int i) = dS (put d x i) := by
  unfold dS putK put
  rw [List.any_map]
  have : ((fun kv : Key × V => decide (kv.1 = Sum.inr x)) ∘ fun q : Str × Int => ((Sum.inr q.1 : Key), V.int q.2)) = fun q => decide (q.1 = x) := by
    funext q
    exact inr_dec _ _
  rw [this]
  split
  · rw [List.map_map, List.map_map]
    refine List.map_congr_left fun q _ => ?_
    show (if (Sum.inr q.1 : Key) = Sum.inr x then _ else _) = _
    by_cases e : q.1 = x
    · have e2 : (Sum.inr q.1 : Key) = Sum.inr x := congrArg _ e
      rw [if_pos e2]
      show _ = ((Sum.inr (if q.1 = x then (q.1, i) else q).1 : Key), V.int (if q.1 = x then (q.1, i) else q).2)
      rw [if_pos e]
    · have e2 : ¬ (Sum.inr q.1 : Key) = Sum.inr x := fun z => e (Sum.inr.inj z)
      rw [if_neg e2]
      show _ = ((Sum.inr (if q.1 = x then (q.1, i) else q).1 : Key), V.int (if q.1 = x then (q.1, i) else q).2)
      rw [if_neg e]
  · rw [List.map_append]
    rfl
theorem dS_len (d : Num) : (dS d).length = d.length := List.length_map ..
/-! ### targets, comprehensions -/
theorem gtup3 {K : PySem.W.Frag} {i j k : Nat} {t : Addr} {x y z : V} {σ : L2.St} {H : Hp} {Q : L2.St → Hp → Prop} (h : H t = some (.tup [x, y, z])) (q : Q (((σ.set i (some x)).set j (some y)).set k (some z)) H) :
    gTup K 3 (gCons (gName i) (gCons (gName j) (gCons (gName k) gNil))) (.ref t) σ H Q := ⟨t, _, rfl, SqT.of h, rfl, x, _, rfl, y, _, rfl, z, _, rfl, rfl, q⟩
theorem gtup2 {K : PySem.W.Frag} {i j : Nat} {t : Addr} {x y : V} {σ : L2.St} {H : Hp} {Q : L2.St → Hp → Prop} (h : H t = some (.tup [x, y])) (q : Q ((σ.set i (some x)).set j (some y)) H) :
    gTup K 2 (gCons (gName i) (gCons (gName j) gNil)) (.ref t) σ H Q := ⟨t, _, rfl, SqT.of h, rfl, x, _, rfl, y, _, rfl, rfl, q⟩
theorem filterMap_take {α β : Type} (f : α → Option β) (xs : List α) {i : Nat} {x : α} (h : xs[i]? = some x) : (xs.take (i + 1)).filterMap f = (xs.take i).filterMap f ++ (f x).toList := by
  rw [List.take_add_one, h, List.filterMap_append]
  show _ ++ List.filterMap f [x] = _
  rw [List.filterMap_cons]
  cases f x <;> rfl
/-- a comprehension that makes, item by item, what f says; the heap grows meanwhile -/
theorem lc_fm {Tb : List (Addr × Str)} {J : It} {n : Nat} {GG : Hp → Prop} {xs : List V} (wk : Walk J n GG (YAt xs)) (hn : n = xs.length) {g : TG} {tt : TT} {te : TE} {vs : List Nat} {σ : L2.St} {H1 : Hp} {D : Addr} {Qd : Hp → Prop} (f : V → Option V) (hD : H1 D = none) (hz : n ≤ 16777215)
    (hG : ∀ H, Gr Tb H1 H → GG H)
    (turn : ∀ (i : Nat) (x : V) (H : Hp), xs[i]? = some x → Gr Tb H1 H → ∀ (Rk : V → Hp → Prop) (Rs : Hp → Prop), (∀ y H4, f x = some y → Gr Tb H H4 → Rk y H4) → (∀ H4, f x = none → Gr Tb H H4 → Rs H4) →
      g x (wipe σ vs) H fun σ2 H2 => wipe σ2 vs = wipe σ vs ∧ tt σ2 H2 fun b H3 => if b = true then te σ2 H3 Rk else Rs H3)
    (done : ∀ H, Gr Tb H1 H → H D = some (.lst (xs.filterMap f)) → Qd H) :
    ∃ W : Nat → Nat → Hp → Prop, (∃ m, W 0 m (upd H1 D (.lst []))) ∧ ∀ i m H, W i m H →
      (J.stop i H ∧ Qd H) ∨ (J.go i H ∧ ∃ Nx : Hp → Prop, (∀ H', Nx H' → ∃ m', m' < m ∧ W (i + 1) m' H') ∧ ∀ x H', J.yld i H x H' → g x (wipe σ vs) H' fun σ2 H2 => wipe σ2 vs = wipe σ vs ∧ tt σ2 H2 fun b H3 =>
        if b = true then te σ2 H3 fun y H4 => ∃ acc, H4 D = some (.lst acc) ∧ acc.length < sizeLine ∧ Nx (upd H4 D (.lst (acc ++ [y]))) else Nx H3) := by
  have put : ∀ {H : Hp} {acc acc' : List V}, Gr Tb H1 H → H D = some (.lst acc) → Gr Tb H1 (upd H D (.lst acc')) := fun {H acc acc'} g hd => by
    refine ⟨fun b o e nt => ?_, fun t p hp => ?_⟩
    · rw [upd_ne (ne_of_none e hD)]
      exact g.ext b o e nt
    · obtain ⟨ps, b1, b2, b3⟩ := g.tab t p hp
      have na : p.1 ≠ D := ne_of b1 hd (fun z => by cases z)
      refine ⟨ps, by rw [upd_ne na]; exact b1, b2, fun po cv hc => ?_⟩
      obtain ⟨c', e1, e2⟩ := b3 po cv hc
      refine ⟨c', e1, ?_⟩
      rw [upd_ne (ne_of e2 hd (fun z => by unfold LamX.CodeO at z; cases z))]
      exact e2
  have h0 : Gr Tb H1 (upd H1 D (.lst [])) := Gr.new hD
  refine lc_it wk (fun i H => Gr Tb H1 H ∧ H D = some (.lst ((xs.take i).filterMap f))) ⟨h0, upd_same⟩ (fun i H _ p => hG H p.1) (fun i x H H' hi p y => ?_) (fun H p => ?_)
  · obtain ⟨rfl, hx⟩ := y
    refine turn i x H' hx p.1 _ _ (fun y H4 e gr => ?_) (fun H4 e gr => ?_)
    · have hd := gr.at p.2 .lst
      refine ⟨_, hd, ?_, put (p.1.trans gr) hd, ?_⟩
      · have l1 : ((xs.take i).filterMap f).length ≤ i := Nat.le_trans (List.length_filterMap_le _ _) (by rw [List.length_take]; omega)
        rw [sizeLine_eq]
        omega
      · rw [upd_same, filterMap_take f xs hx, e]
        rfl
    · refine ⟨p.1.trans gr, ?_⟩
      rw [filterMap_take f xs hx, e, gr.at p.2 .lst]
      simp
  · refine done H p.1 ?_
    have := p.2
    rw [hn, List.take_length] at this
    exact this
/-- the signs of a text, each as a text -/
def signs (z : Str) : List V := z.cps.toList.map fun c => V.str ⟨#[c]⟩
theorem walk_text {z : Str} : Walk (Its z) (signs z).length (fun _ => True) (YAt (signs z)) := by
  have e : (signs z).length = z.cps.size := by
    unfold signs
    rw [List.length_map, Array.length_toList]
  rw [e]
  refine walk_str.mono (fun _ h => h) fun i H v H' hi _ y => ?_
  obtain ⟨h1, c, h2, h3⟩ := y
  refine ⟨h1, ?_⟩
  unfold signs
  rw [List.getElem?_map, Array.getElem?_toList, h2, h3]
  rfl
/-- all([c in z for c in x]) -/
theorem rd_allIn {Tb : List (Addr × Str)} {K : PySem.W.Frag} {i : Nat} {x z : Str} {σ : L2.St} {H : Hp} {Q : VK} (h0 : σ[0]? = some (some (.str x))) (hw : (wipe σ [i]).length = σ.length) (hi : i < σ.length) (hz : x.length ≤ 1000000)
    (k : ∀ H', Gr Tb H H' → Q (.bl (x.cps.toList.all fun c => decide (c ∈ z.cps.toList))) H') :
    tCB (rAll K) (tCons (tLc (iStr (tVar 0)) (gName i) tYes (tOp (fun x y H Q => ∃ (c : Nat) (z : Str), x = V.str ⟨#[c]⟩ ∧ y = V.str z ∧ Q (V.bl (decide (c ∈ z.cps.toList))) H) (tVar i) (tC (V.str z))) [i]) tNil) σ H Q := by
  refine ⟨_, h0, x, rfl, fun D hD => lc_fm (Tb := Tb) (xs := signs x) walk_text rfl (fun v => match v with | .str y => some (.bl (decide (y.cps.getD 0 0 ∈ z.cps.toList))) | _ => none) hD ?_ (fun _ _ => trivial) (fun j v H' hv _ Rk Rs hk hs => ?_) fun H' g hd => ?_⟩
  · unfold signs
    rw [List.length_map, Array.length_toList]
    have : x.cps.size = x.length := rfl
    omega
  · unfold signs at hv
    rw [List.getElem?_map] at hv
    cases hc : x.cps.toList[j]? with
    | none =>
      rw [hc] at hv
      cases hv
    | some c =>
      rw [hc] at hv
      cases hv
      refine ⟨?_, V.str ⟨#[c]⟩, ?_, c, z, rfl, rfl, hk _ _ ?_ (Gr.refl _)⟩
      · show List.set (List.set (List.set σ i none) i (some (V.str ⟨#[c]⟩))) i none = List.set σ i none
        rw [List.set_set, List.set_set]
      · rw [List.getElem?_set_self (by rw [hw]; exact hi)]
      · simp
  · refine ⟨D, x.cps.toList.map fun c => decide (c ∈ z.cps.toList), rfl, ?_, ?_⟩
    · have e : (signs x).filterMap (fun v => match v with | .str y => some (V.bl (decide (y.cps.getD 0 0 ∈ z.cps.toList))) | _ => none) = (x.cps.toList.map fun c => decide (c ∈ z.cps.toList)).map V.bl := by
        unfold signs
        rw [List.filterMap_map, List.map_map, ← List.filterMap_eq_map]
        rfl
      rw [e] at hd
      exact SqL.of hd
    · have e : (x.cps.toList.map fun c => decide (c ∈ z.cps.toList)).all id = x.cps.toList.all fun c => decide (c ∈ z.cps.toList) := by
        rw [List.all_map]
        rfl
      rw [e]
      exact k H' g
/-! ### a list beside an empty one -/
def rNil (K : PySem.W.Frag) (neg : Bool) : R2 := fun x y H Q => ∃ (a b : Addr) (xs : List V), x = .ref a ∧ y = .ref b ∧ SqL K H a xs ∧ SqL K H b [] ∧ Q (.bl (if neg then !xs.isEmpty else xs.isEmpty)) H
section
variable {X : Cx}
theorem op_eqNil (hu : X.A.units + 64 < cLine) : OpR X (compareOp .Eq) (rNil X.K false) := by
  intro pins s σ H x y v u Q I rx ry h
  obtain ⟨a, b, xs, rfl, rfl, hx, hy, q⟩ := h
  obtain rfl : v = Value.ref a := rx
  obtain rfl : u = Value.ref b := ry
  obtain ⟨its, r1, p1, _⟩ := I.list hx
  obtain ⟨its2, r2, p2, _⟩ := I.list hy
  cases r2
  cases xs with
  | nil =>
    cases r1
    exact SeqAt.eq_listAt (e := fun _ => true) p1.isList p2.isList rfl (by omega) (fun j h1 => absurd h1 (by simp)) ⟨.bl true, H, I, rfl, q⟩
  | cons z zs =>
    cases r1
    exact SeqAt.eq_list_lengthsAt p1.isList p2.isList (by simp) (by omega) ⟨.bl false, H, I, rfl, q⟩
theorem op_neNil (hu : X.A.units + 64 < cLine) : OpR X (compareOp .NotEq) (rNil X.K true) := by
  intro pins s σ H x y v u Q I rx ry h
  obtain ⟨a, b, xs, rfl, rfl, hx, hy, q⟩ := h
  obtain rfl : v = Value.ref a := rx
  obtain rfl : u = Value.ref b := ry
  obtain ⟨its, r1, p1, _⟩ := I.list hx
  obtain ⟨its2, r2, p2, _⟩ := I.list hy
  cases r2
  cases xs with
  | nil =>
    cases r1
    exact SeqAt.RcNeAt.lists (e := fun _ => true) p1.isList p2.isList rfl (by omega) (fun j h1 => absurd h1 (by simp)) _ _ _ _ ⟨.bl false, H, I, rfl, q⟩
  | cons z zs =>
    cases r1
    exact SeqAt.RcNeAt.lists_lengths p1.isList p2.isList (by simp) (by omega) _ _ _ _ ⟨.bl true, H, I, rfl, q⟩
end
/-- the reading: x beside a new empty list -/
theorem rd_nil {K : PySem.W.Frag} {neg : Bool} {a : Addr} {xs : List V} {σ : L2.St} {H : Hp} {Q : VK} (h : SqL K H a xs) (k : ∀ p, H p = none → Q (.bl (if neg then !xs.isEmpty else xs.isEmpty)) (upd H p (.lst []))) :
    tLst tNil σ H fun y H2 => rNil K neg (.ref a) y H2 Q := ⟨Nat.zero_le _, fun p hp => ⟨a, p, xs, rfl, rfl, (Same.upd hp).seq h, SqL.of upd_same, k p hp⟩⟩
/-- while, the test apart from the body: Pv ahead of the test, PT behind a true one, PF behind a false one -/
theorem while_cps {c : TT} {tb : TS} {D : Ends} {σ : L2.St} {H : Hp} (Pv PT PF : Nat → L2.St → Hp → Prop) (m0 : Nat) (h0 : Pv m0 σ H)
    (test : ∀ m σ H, Pv m σ H → ∀ R : Bool → Hp → Prop, (∀ H1, PT m σ H1 → R true H1) → (∀ H1, PF m σ H1 → R false H1) → c σ H R)
    (body : ∀ m σ H, PT m σ H → tb { D with nx := fun σ' H' => ∃ m', m' < m ∧ Pv m' σ' H', ct := fun σ' H' => ∃ m', m' < m ∧ Pv m' σ' H', bk := D.nx } σ H) (done : ∀ m σ H, PF m σ H → D.nx σ H) : tWhile c tb D σ H := by
  refine ⟨Pv, ⟨m0, h0⟩, fun m σ H p => ?_⟩
  refine test m σ H p _ (fun H1 q => ?_) (fun H1 q => ?_)
  · show (if true = true then _ else _)
    rw [if_pos rfl]
    exact ⟨_, fun _ _ n => n, body m σ H1 q⟩
  · show (if false = true then _ else _)
    rw [if_neg Bool.false_ne_true]
    exact done m σ H1 q
/-- the first item of the tuple that stands at v -/
def itemAt (H : Hp) (i : Nat) : V → Option V
  | .ref t => match H t with
    | some (.tup xs) => xs[i]?
    | _ => none
  | _ => none
theorem itemAt_tup {H : Hp} {t : Addr} {xs : List V} {i : Nat} (h : H t = some (.tup xs)) : itemAt H i (.ref t) = xs[i]? := by
  show (match H t with
    | some (.tup xs) => xs[i]?
    | _ => none) = xs[i]?
  rw [h]
theorem fm_paired {α β γ : Type} {R : α → β → Prop} {f : α → Option γ} {g : β → γ} (hf : ∀ a b, R a b → f a = some (g b)) : ∀ {xs : List α} {ys : List β}, Paired R xs ys → xs.filterMap f = ys.map g
  | _, _, .nil => rfl
  | x :: xs, y :: ys, .cons a t => by
    rw [List.filterMap_cons, hf _ _ a, fm_paired hf t]
    rfl
theorem fm_pairedO {α β γ : Type} {R : α → β → Prop} {f : α → Option γ} {g : β → Option γ} (hf : ∀ a b, R a b → f a = g b) : ∀ {xs : List α} {ys : List β}, Paired R xs ys → xs.filterMap f = ys.filterMap g
  | _, _, .nil => rfl
  | x :: xs, y :: ys, .cons a t => by
    rw [List.filterMap_cons, List.filterMap_cons, hf _ _ a, fm_pairedO hf t]
/-- the index of an item from the start -/
theorem seq_ix {r : Int} {n : Nat} (h0 : 0 ≤ r) (h1 : r < n) : seqIndex? r n = some r.toNat := by
  unfold seqIndex?
  rw [if_neg (show ¬ r < 0 by omega)]
  simp
  exact ⟨h0, h1⟩
theorem perm_map {α β : Type} (f : α → β) {ys : List β} {xs : List α} (p : ys.Perm (xs.map f)) : ∃ zs : List α, ys = zs.map f ∧ zs.Perm xs := by
  have h : Paired (fun y x => y = f x) (xs.map f) xs := by
    clear p
    induction xs with
    | nil => exact .nil
    | cons x xs ih => exact .cons rfl ih
  obtain ⟨zs, p1, h1⟩ := Paired.perm p h
  refine ⟨zs, ?_, p1⟩
  clear p p1 h
  induction h1 with
  | nil => rfl
  | cons a _ ih => rw [List.map_cons, ← a, ← ih]
theorem pick_at {α : Type} {xs : List α} {r : Int} (h0 : 0 ≤ r) (h1 : r < xs.length) : ∃ y ∈ xs, atI xs r = some y := by
  obtain ⟨j, rfl⟩ := Int.eq_ofNat_of_zero_le h0
  have hj : j < xs.length := by omega
  exact ⟨xs[j], List.getElem_mem _, atI_nat (List.getElem?_eq_getElem hj)⟩
theorem pick_int {xs : List V} (is : List Int) {r : Int} {P : Int → Prop} (e : xs = is.map V.int) (h0 : 0 ≤ r) (h1 : r < is.length) (hp : ∀ i ∈ is, P i) : ∃ i, atI xs r = some (.int i) ∧ P i := by
  subst e
  obtain ⟨y, hy, e⟩ := pick_at (xs := is.map V.int) h0 (by rw [List.length_map]; exact h1)
  obtain ⟨i, hi, rfl⟩ := List.mem_map.mp hy
  exact ⟨i, e, hp i hi⟩
theorem cut_take {xs : List V} {k : Int} (h : 0 ≤ k) : cutV xs none (some k) = xs.take k.toNat := by
  obtain ⟨j, rfl⟩ := Int.eq_ofNat_of_zero_le h
  unfold cutV
  rw [HT.sIx_nat, HT.sIx_none]
  show List.take (min j xs.length - 0) xs = List.take j xs
  rw [Nat.sub_zero]
  rcases Nat.le_total j xs.length with z | z
  · rw [Nat.min_eq_left z]
  · rw [Nat.min_eq_right z, List.take_length, List.take_of_length_le z]
/-- what is known behind an expression -/
theorem rd_post {t : TE} {σ : L2.St} {H : Hp} {Q : VK} (P : V → Hp → Prop) (h : ∀ Q' : VK, (∀ x H', P x H' → Q' x H') → t σ H Q') (k : ∀ x H', P x H' → Q x H') : t σ H Q := h Q k
theorem goN {i : Nat} {x : V} {σ : L2.St} {H : Hp} {Q : L2.St → Hp → Prop} (h : Q (σ.set i (some x)) H) : gName i x σ H Q := h
/-- x = e; then the rest: what is known behind e -/
theorem sq_asg {t : TE} {i : Nat} {u : TS} {D : Ends} {σ : L2.St} {H : Hp} (P : V → Hp → Prop) (h : ∀ Q' : VK, (∀ x H', P x H' → Q' x H') → t σ H Q') (k : ∀ x H', P x H' → u D (σ.set i (some x)) H') : tSeq (tAsg t (gName i)) u D σ H := h _ k
/-- t; then the rest: what is known behind t -/
theorem sq_st {t u : TS} {D : Ends} {σ : L2.St} {H : Hp} (P : L2.St → Hp → Prop) (h : ∀ N : L2.St → Hp → Prop, (∀ σ' H', P σ' H' → N σ' H') → t { D with nx := N } σ H) (k : ∀ σ' H', P σ' H' → u D σ' H') : tSeq t u D σ H := h _ k
theorem Paired.flip {α β : Type} {R : α → β → Prop} : ∀ {xs : List α} {ys : List β}, Paired R xs ys → Paired (fun y x => R x y) ys xs
  | _, _, .nil => .nil
  | _, _, .cons a t => .cons a (Paired.flip t)
theorem Paired.trans {α β γ : Type} {R : α → β → Prop} {S : β → γ → Prop} : ∀ {xs : List α} {ys : List β} {zs : List γ}, Paired R xs ys → Paired S ys zs → Paired (fun x z => ∃ y, R x y ∧ S y z) xs zs
  | _, _, _, .nil, .nil => .nil
  | _, _, _, .cons a t, .cons b u => .cons ⟨_, a, b⟩ (Paired.trans t u)
/-- a list that is not yet known is written -/
theorem Gr.put {Tb : List (Addr × Str)} {H1 H : Hp} {D : Addr} {acc acc' : List V} (hD : H1 D = none) (g : Gr Tb H1 H) (hd : H D = some (.lst acc)) : Gr Tb H1 (upd H D (.lst acc')) := g.mut (.of hD) hd .lst
/-- a comprehension that makes, item by item, something that R tells of; the heap grows meanwhile -/
theorem lc_rel {Tb : List (Addr × Str)} {J : It} {n : Nat} {GG : Hp → Prop} {xs : List V} (wk : Walk J n GG (YAt xs)) (hn : n = xs.length) {g : TG} {tt : TT} {te : TE} {vs : List Nat} {σ : L2.St} {H1 : Hp} {D : Addr} {Qd : Hp → Prop} (keep : V → Bool) (R : Hp → V → V → Prop)
    (mono : ∀ H H' x y, (∀ a o, NoTab o → (∀ l, o ≠ .lst l) ∨ a ≠ D → H a = some o → H' a = some o) → R H x y → R H' x y) (hD : H1 D = none) (hz : n ≤ 16777215)
    (hG : ∀ H, Gr Tb H1 H → GG H)
    (turn : ∀ (i : Nat) (x : V) (H : Hp), xs[i]? = some x → Gr Tb H1 H → H D ≠ none → ∀ (Rk : V → Hp → Prop) (Rs : Hp → Prop), (∀ y H4, keep x = true → Gr Tb H H4 → R H4 x y → Rk y H4) → (∀ H4, keep x = false → Gr Tb H H4 → Rs H4) →
      g x (wipe σ vs) H fun σ2 H2 => wipe σ2 vs = wipe σ vs ∧ tt σ2 H2 fun b H3 => if b = true then te σ2 H3 Rk else Rs H3)
    (done : ∀ H ys, Gr Tb H1 H → H D = some (.lst ys) → Paired (R H) (xs.filter keep) ys → Qd H) :
    ∃ W : Nat → Nat → Hp → Prop, (∃ m, W 0 m (upd H1 D (.lst []))) ∧ ∀ i m H, W i m H →
      (J.stop i H ∧ Qd H) ∨ (J.go i H ∧ ∃ Nx : Hp → Prop, (∀ H', Nx H' → ∃ m', m' < m ∧ W (i + 1) m' H') ∧ ∀ x H', J.yld i H x H' → g x (wipe σ vs) H' fun σ2 H2 => wipe σ2 vs = wipe σ vs ∧ tt σ2 H2 fun b H3 =>
        if b = true then te σ2 H3 fun y H4 => ∃ acc, H4 D = some (.lst acc) ∧ acc.length < sizeLine ∧ Nx (upd H4 D (.lst (acc ++ [y]))) else Nx H3) := by
  have h0 : Gr Tb H1 (upd H1 D (.lst [])) := Gr.new hD
  refine lc_it wk (fun i H => Gr Tb H1 H ∧ ∃ ys, H D = some (.lst ys) ∧ Paired (R H) ((xs.take i).filter keep) ys) ⟨h0, [], upd_same, by rw [List.take_zero]; exact .nil⟩ (fun i H _ p => hG H p.1) (fun i x H H' hi p y => ?_) (fun H p => ?_)
  · obtain ⟨rfl, hx⟩ := y
    obtain ⟨g1, ys, hd, pr⟩ := p
    have tk : (xs.take (i + 1)).filter keep = (xs.take i).filter keep ++ [x].filter keep := by
      rw [List.take_add_one, hx, List.filter_append]
      rfl
    refine turn i x H' hx g1 (by rw [hd]; exact fun z => by cases z) _ _ (fun y H4 e gr r => ?_) (fun H4 e gr => ?_)
    · have hd4 := gr.at hd .lst
      have hle : ys.length ≤ i := by
        rw [← Paired.len pr]
        exact Nat.le_trans (List.length_filter_le _ _) (by rw [List.length_take]; omega)
      refine ⟨_, hd4, by rw [sizeLine_eq]; omega, Gr.put hD (g1.trans gr) hd4, ys ++ [y], upd_same, ?_⟩
      rw [tk, List.filter_cons, if_pos e, List.filter_nil]
      have m2 : ∀ x z, R H4 x z → R (upd H4 D (.lst (ys ++ [y]))) x z := fun x z r => mono H4 _ x z (fun a o _ ha q => by
        rw [upd_ne]
        · exact q
        · rcases ha with ha | ha
          · exact fun e => by
              rw [e, hd4] at q
              cases q
              exact ha _ rfl
          · exact ha) r
      exact Paired.snoc (m2 x y r) (Paired.imp (fun a b r' => m2 a b (mono H' H4 a b (fun a o nt _ q => gr.at q nt) r')) pr)
    · refine ⟨g1.trans gr, ys, gr.at hd .lst, ?_⟩
      rw [tk, List.filter_cons, if_neg (by rw [e]; exact Bool.false_ne_true), List.filter_nil, List.append_nil]
      exact Paired.imp (fun a b r' => mono H' H4 a b (fun a o nt _ q => gr.at q nt) r') pr
  · obtain ⟨g1, ys, hd, pr⟩ := p
    rw [hn, List.take_length] at pr
    exact done H ys g1 hd pr
/-- [entry[0] for entry in ..] -/
theorem lc_names {Tb : List (Addr × Str)} {K : PySem.W.Frag} {a : Addr} {ys : List V} {es : List Ent} {i : Nat} {σ : L2.St} {H1 : Hp} {D : Addr} {Qd : Hp → Prop} (ha : SqL K H1 a ys) (hc : CatAt H1 ys es) (hz : es.length ≤ 100000) (hD : H1 D = none) (hi : (σ.set i none)[i]? = some none)
    (k : ∀ H', Gr Tb H1 H' → H' D = some (.lst ((es.map (·.name)).map V.str)) → Qd H') :
    ∃ W : Nat → Nat → Hp → Prop, (∃ m, W 0 m (upd H1 D (.lst []))) ∧ ∀ j m H, W j m H →
      ((Itl K a).stop j H ∧ Qd H) ∨ ((Itl K a).go j H ∧ ∃ Nx : Hp → Prop, (∀ H', Nx H' → ∃ m', m' < m ∧ W (j + 1) m' H') ∧ ∀ x H', (Itl K a).yld j H x H' → gName i x (wipe σ [i]) H' fun σ2 H2 => wipe σ2 [i] = wipe σ [i] ∧ tYes σ2 H2 fun b H3 =>
        if b = true then (tOp (rIxT K) (tVar i) (tC (.int 0))) σ2 H3 fun y H4 => ∃ acc, H4 D = some (.lst acc) ∧ acc.length < sizeLine ∧ Nx (upd H4 D (.lst (acc ++ [y]))) else Nx H3) := by
  have hl := Paired.len hc
  have hil : i < σ.length := by
    have := (List.getElem?_eq_some_iff.mp hi).1
    rwa [List.length_set] at this
  refine lc_fm (Tb := Tb) (xs := ys) walk_list rfl (itemAt H1 0) hD (by omega) (fun H' g => g.ext_seq ha) (fun j v H' hv g Rk Rs hk hs => ?_) fun H' g hD' => ?_
  · obtain ⟨e, he, t, lp, rfl, h1, h2⟩ := Paired.at hc hv
    have e1 : wipe ((wipe σ [i]).set i (some (V.ref t))) [i] = wipe σ [i] := by
      show List.set (List.set (List.set σ i none) i (some (V.ref t))) i none = List.set σ i none
      rw [List.set_set, List.set_set]
    have e2 : ((wipe σ [i]).set i (some (V.ref t)))[i]? = some (some (V.ref t)) := by
      show (List.set (List.set σ i none) i (some (V.ref t)))[i]? = _
      rw [List.getElem?_set_self (by rw [List.length_set]; exact hil)]
    exact ⟨e1, _, e2, t, _, _, _, rfl, rfl, SqT.of (g.at h1 .tup), atI_nat (j := 0) rfl, hk _ _ (by rw [itemAt_tup h1]; rfl) (Gr.refl _)⟩
  · have e : ys.filterMap (itemAt H1 0) = (es.map (·.name)).map V.str := by
      rw [List.map_map]
      exact fm_paired (fun v e ⟨t, lp, h0, h1, h2⟩ => by rw [h0, itemAt_tup h1]; rfl) hc
    rw [e] at hD'
    exact k H' g hD'
end Sk
/-! dicts of numbers -/
namespace Sk
open PySem PySem.Spec PyProof.Rows L2
/-- f at the names of es -/
def numOf (es : List Ent) (f : Str → Int) : Num := es.map fun e => (e.name, f e.name)
def upF (f : Str → Int) (x : Str) (i : Int) : Str → Int := fun y => if y = x then i else f y
theorem numOf_names (es : List Ent) (f : Str → Int) : (numOf es f).map (·.1) = es.map (·.name) := by
  unfold numOf
  rw [List.map_map]
  rfl
theorem numOf_len (es : List Ent) (f : Str → Int) : (numOf es f).length = es.length := List.length_map ..
theorem get?_numOf {f : Str → Int} {x : Str} : ∀ {es : List Ent}, x ∈ es.map (·.name) → get? (numOf es f) x = some (f x)
  | [], h => by cases h
  | e :: es, h => by
    unfold numOf get?
    rw [List.map_cons, List.find?_cons]
    by_cases q : e.name = x
    · rw [show decide ((e.name, f e.name).1 = x) = true from decide_eq_true q, ← q]
      rfl
    · rw [show decide ((e.name, f e.name).1 = x) = false from decide_eq_false q]
      rw [List.map_cons] at h
      exact get?_numOf ((List.mem_cons.mp h).resolve_left fun z => q z.symm)
theorem get?_none {d : Num} {x : Str} (h : x ∉ d.map (·.1)) : get? d x = none := by
  unfold get?
  rw [List.find?_eq_none.mpr fun q hq => by
    rw [decide_eq_true_eq]
    exact fun e => h (List.mem_map.mpr ⟨q, hq, e⟩)]
  rfl
theorem getD_numOf {es : List Ent} {f : Str → Int} {x : Str} (h : x ∈ es.map (·.name)) : getD (numOf es f) x = f x := by
  unfold getD
  rw [get?_numOf h]
  rfl
theorem getD_none {d : Num} {x : Str} (h : x ∉ d.map (·.1)) : getD d x = 0 := by
  unfold getD
  rw [get?_none h]
  rfl
theorem put_numOf {es : List Ent} {f : Str → Int} {x : Str} {i : Int} (h : x ∈ es.map (·.name)) : put (numOf es f) x i = numOf es (upF f x i) := by
  unfold put
  rw [if_pos]
  · unfold numOf upF
    rw [List.map_map]
    refine List.map_congr_left fun e _ => ?_
    show (if e.name = x then (e.name, i) else (e.name, f e.name)) = (e.name, if e.name = x then i else f e.name)
    split <;> rfl
  · rw [List.any_eq_true]
    obtain ⟨e, he, q⟩ := List.mem_map.mp h
    exact ⟨(e.name, f e.name), List.mem_map.mpr ⟨e, he, rfl⟩, decide_eq_true q⟩
theorem numOf_congr {es : List Ent} {f g : Str → Int} (h : ∀ e ∈ es, f e.name = g e.name) : numOf es f = numOf es g := List.map_congr_left fun e he => by rw [h e he]
/-! ### d[x], d.get(x, 0), d[x] = i -/
theorem dgetO {H : Hp} {a : Addr} {d : Num} (h : H a = some (.dK (dS d))) (x : Str) : DGet H a (.str x) ((get? d x).map V.int) := by
  have := DGet.k (k := Sum.inr x) h
  rw [valV_dS] at this
  exact this
theorem dgetS {H : Hp} {a : Addr} {d : Num} {x : Str} {i : Int} (h : H a = some (.dK (dS d))) (e : get? d x = some i) : DGet H a (.str x) (some (.int i)) := by
  have := dgetO h x
  rw [e] at this
  exact this
theorem getO (d : Num) (x : Str) : ((get? d x).map V.int).getD (.int 0) = .int (getD d x) := by
  unfold getD
  cases get? d x <;> rfl
/-- d.get(x, 0), what is known -/
theorem dget2 {H : Hp} {a : Addr} {d : Num} {x : Str} {Q : VK} (h : H a = some (.dK (dS d))) (q : Q (.int (getD d x)) H) : ∃ o, DGet H a (.str x) o ∧ Q (o.getD (.int 0)) H := ⟨_, dgetO h x, by rw [getO]; exact q⟩
theorem dputS {H : Hp} {a : Addr} {d : Num} {x : Str} {i : Int} (h : H a = some (.dK (dS d))) (hz : d.length < sizeLine) : DPut H a (.str x) (.int i) (upd H a (.dK (dS (put d x i)))) := .inl ⟨_, Sum.inr x, h, rfl, by rw [dS_len]; exact hz, by rw [putK_dS]⟩
theorem IsD.num {H : Hp} {a : Addr} {d : Num} (h : H a = some (.dK (dS d))) : IsD H a := .inl ⟨_, .inl h⟩
/-! ### a dict comprehension of numbers -/
def putAll (d : Num) (l : Num) : Num := l.foldl (fun d q => put d q.1 q.2) d
theorem put_new' {d : Num} {x : Str} {i : Int} (h : x ∉ d.map (·.1)) : put d x i = d ++ [(x, i)] := by
  unfold put
  rw [if_neg]
  rw [List.any_eq_true]
  rintro ⟨q, hq, e⟩
  exact h (List.mem_map.mpr ⟨q, hq, by simpa using e⟩)
theorem putAll_new : ∀ (l d : Num), ((d ++ l).map (·.1)).Nodup → putAll d l = d ++ l
  | [], d, _ => (List.append_nil d).symm
  | q :: l, d, h => by
    have e : d ++ q :: l = (d ++ [q]) ++ l := by rw [List.append_assoc]; rfl
    rw [e] at h
    have hn : q.1 ∉ d.map (·.1) := by
      rw [List.map_append, List.map_append, List.append_assoc] at h
      have h2 := (List.nodup_append.mp h).2.2
      exact fun hm => h2 _ hm _ (List.mem_append_left _ (List.mem_map.mpr ⟨q, List.mem_singleton.mpr rfl, rfl⟩)) rfl
    show putAll (put d q.1 q.2) l = _
    rw [put_new' hn, putAll_new l _ h, e]
theorem put_len (d : Num) (x : Str) (i : Int) : (put d x i).length ≤ d.length + 1 := by
  unfold put
  split
  · rw [List.length_map]
    omega
  · rw [List.length_append]
    exact Nat.le_refl _
theorem putAll_len : ∀ (l d : Num), (putAll d l).length ≤ d.length + l.length
  | [], d => Nat.le_refl _
  | q :: l, d => by
    have h1 := putAll_len l (put d q.1 q.2)
    have h2 := put_len d q.1 q.2
    rw [List.length_cons]
    show (putAll (put d q.1 q.2) l).length ≤ _
    omega
theorem Gr.putD {Tb : List (Addr × Str)} {H1 H : Hp} {D : Addr} {acc acc' : List (Key × V)} (hD : H1 D = none) (g : Gr Tb H1 H) (hd : H D = some (.dK acc)) : Gr Tb H1 (upd H D (.dK acc')) := g.mut (.of hD) hd .dK
/-- a dict comprehension that makes, item by item, what f says; the heap grows meanwhile -/
theorem dc_fm {Tb : List (Addr × Str)} {J : It} {n : Nat} {GG : Hp → Prop} {xs : List V} (wk : Walk J n GG (YAt xs)) (hn : n = xs.length) {g : TG} {tt : TT} {tk tv : TE} {vs : List Nat} {σ : L2.St} {H1 : Hp} {D : Addr} {Qd : Hp → Prop} (f : V → Option (Str × Int)) (hD : H1 D = none) (hz : n ≤ 100000)
    (hG : ∀ H, Gr Tb H1 H → GG H)
    (turn : ∀ (i : Nat) (x : V) (H : Hp), xs[i]? = some x → Gr Tb H1 H → ∀ (Rk : V → V → Hp → Prop) (Rs : Hp → Prop), (∀ q H4, f x = some q → Gr Tb H H4 → Rk (.str q.1) (.int q.2) H4) → (∀ H4, f x = none → Gr Tb H H4 → Rs H4) →
      g x (wipe σ vs) H fun σ2 H2 => wipe σ2 vs = wipe σ vs ∧ tt σ2 H2 fun b H3 => if b = true then tk σ2 H3 fun y H4 => tv σ2 H4 fun z H5 => Rk y z H5 else Rs H3)
    (done : ∀ H, Gr Tb H1 H → H D = some (.dK (dS (putAll [] (xs.filterMap f)))) → Qd H) :
    ∃ W : Nat → Nat → Hp → Prop, (∃ m, W 0 m (upd H1 D (.dK []))) ∧ ∀ i m H, W i m H →
      (J.stop i H ∧ Qd H) ∨ (J.go i H ∧ ∃ Nx : Hp → Prop, (∀ H', Nx H' → ∃ m', m' < m ∧ W (i + 1) m' H') ∧ ∀ x H', J.yld i H x H' → g x (wipe σ vs) H' fun σ2 H2 => wipe σ2 vs = wipe σ vs ∧ tt σ2 H2 fun b H3 =>
        if b = true then tk σ2 H3 fun y H4 => tv σ2 H4 fun z H5 => ∃ kvs k, y = kV k ∧ H5 D = some (.dK kvs) ∧ kvs.length < sizeLine ∧ Nx (upd H5 D (.dK (putK kvs k z))) else Nx H3) := by
  have h0 : Gr Tb H1 (upd H1 D (.dK [])) := Gr.new hD
  let P : Nat → Hp → Prop := fun i H => Gr Tb H1 H ∧ H D = some (.dK (dS (putAll [] ((xs.take i).filterMap f))))
  refine ⟨fun i m H => m = n - i ∧ i ≤ n ∧ P i H, ⟨n, rfl, Nat.zero_le _, h0, by rw [List.take_zero]; exact upd_same⟩, ?_⟩
  rintro i m H ⟨rfl, hi, p⟩
  have q := hG H p.1
  by_cases hlt : i < n
  · refine .inr ⟨wk.goes i H hlt q, P (i + 1), fun H' p' => ⟨n - (i + 1), by omega, rfl, hlt, p'⟩, fun x H' y => ?_⟩
    obtain ⟨rfl, hx⟩ := wk.yields i H x H' hlt q y
    obtain ⟨g1, hd⟩ := p
    have lle : (putAll [] ((xs.take i).filterMap f)).length ≤ 100000 := by
      have h1 := putAll_len ((xs.take i).filterMap f) []
      have h2 : ((xs.take i).filterMap f).length ≤ i := Nat.le_trans (List.length_filterMap_le _ _) (by rw [List.length_take]; omega)
      have h3 : ([] : Num).length = 0 := rfl
      omega
    refine turn i x H' hx g1 (fun y z H5 => ∃ kvs k, y = kV k ∧ H5 D = some (.dK kvs) ∧ kvs.length < sizeLine ∧ P (i + 1) (upd H5 D (.dK (putK kvs k z)))) (P (i + 1)) (fun q H4 e gr => ?_) (fun H4 e gr => ?_)
    · have hd4 := gr.at hd .dK
      refine ⟨_, Sum.inr q.1, rfl, hd4, ?_, Gr.putD hD (g1.trans gr) hd4, ?_⟩
      · rw [dS_len, sizeLine_eq]
        omega
      · rw [upd_same, filterMap_take f xs hx, e, putK_dS]
        unfold putAll
        rw [Option.toList_some, List.foldl_append]
        rfl
    · refine ⟨g1.trans gr, ?_⟩
      rw [filterMap_take f xs hx, e, gr.at hd .dK]
      simp
  · have e : i = n := by omega
    subst e
    refine .inl ⟨wk.stops H q, done H p.1 ?_⟩
    have := p.2
    rw [hn, List.take_length] at this
    exact this
/-! ### numbers grow -/
def addAll (f : Str → Int) (l : Num) : Str → Int := l.foldl (fun f q => upF f q.1 (f q.1 + q.2)) f
theorem addAll_append (f : Str → Int) (l m : Num) : addAll f (l ++ m) = addAll (addAll f l) m := List.foldl_append ..
theorem addAll_snoc (f : Str → Int) (l : Num) (q : Str × Int) : addAll f (l ++ [q]) = upF (addAll f l) q.1 (addAll f l q.1 + q.2) := by
  rw [addAll_append]
  rfl
def amt (l : Num) (x : Str) : Int := (l.map fun q => if q.1 = x then q.2 else 0).sum
def ones (l : List Str) : Num := l.map fun p => (p, 1)
theorem amt_cons (q : Str × Int) (l : Num) (x : Str) : amt (q :: l) x = (if q.1 = x then q.2 else 0) + amt l x := by
  unfold amt
  rw [List.map_cons, List.sum_cons]
theorem amt_append (l m : Num) (x : Str) : amt (l ++ m) x = amt l x + amt m x := by
  induction l with
  | nil =>
    show amt m x = 0 + amt m x
    omega
  | cons q l ih =>
    rw [List.cons_append, amt_cons, amt_cons, ih]
    omega
theorem addAll_at : ∀ (l : Num) (f : Str → Int) (x : Str), addAll f l x = f x + amt l x
  | [], f, x => by
    show f x = f x + 0
    omega
  | q :: l, f, x => by
    show addAll (upF f q.1 (f q.1 + q.2)) l x = _
    rw [addAll_at l, amt_cons]
    unfold upF
    by_cases h : x = q.1
    · rw [if_pos h, if_pos h.symm, h]
      omega
    · rw [if_neg h, if_neg fun z => h z.symm]
      omega
/-- what the splits add: to each part, for each entry -/
def incs (es : List Ent) (f : Str → Int) : Num := es.flatMap fun e => e.parts.map fun p => (p, f e.name)
theorem incs_snoc {es : List Ent} {f : Str → Int} {i : Nat} {e : Ent} (h : es[i]? = some e) : incs (es.take (i + 1)) f = incs (es.take i) f ++ e.parts.map fun p => (p, f e.name) := by
  unfold incs
  rw [List.take_add_one, h, List.flatMap_append]
  simp
/-- the pieces of each kind: of the stock, of the splits -/
def pn (es : List Ent) (st sp : Num) : Str → Int := addAll (getD st) (incs es (getD sp))
theorem amt_perm {es es' : List Ent} (p : es'.Perm es) (f : Str → Int) (x : Str) : amt (incs es' f) x = amt (incs es f) x := by
  induction p with
  | nil => rfl
  | cons e _ ih =>
    unfold incs at ih ⊢
    rw [List.flatMap_cons, List.flatMap_cons, amt_append, amt_append, ih]
  | swap a b l =>
    unfold incs
    rw [List.flatMap_cons, List.flatMap_cons, List.flatMap_cons, List.flatMap_cons, amt_append, amt_append, amt_append, amt_append]
    omega
  | trans _ _ h1 h2 => rw [h1, h2]
theorem pn_at (es : List Ent) (st sp : Num) (x : Str) : pn es st sp x = getD st x + amt (incs es (getD sp)) x := addAll_at _ _ _
theorem pn_perm {es es' : List Ent} (p : es'.Perm es) (st sp : Num) : pn es' st sp = pn es st sp := by
  funext x
  rw [pn_at, pn_at, amt_perm p]
/-- a dict comprehension over anything, by the turn's number -/
theorem dc_gen {Tb : List (Addr × Str)} {J : It} {n : Nat} {GG : Hp → Prop} {Y : Nat → Hp → V → Hp → Prop} (wk : Walk J n GG Y) {g : TG} {tt : TT} {tk tv : TE} {vs : List Nat} {σ : L2.St} {H1 : Hp} {D : Addr} {Qd : Hp → Prop} (F : Nat → Option (Str × Int)) (hD : H1 D = none) (hz : n ≤ 100000)
    (hG : ∀ H, Gr Tb H1 H → GG H) (hY : ∀ i H x H', Y i H x H' → Gr Tb H H')
    (turn : ∀ (i : Nat) (x : V) (H H' : Hp), i < n → Gr Tb H1 H' → Y i H x H' → ∀ (Rk : V → V → Hp → Prop) (Rs : Hp → Prop), (∀ q H4, F i = some q → Gr Tb H' H4 → Rk (.str q.1) (.int q.2) H4) → (∀ H4, F i = none → Gr Tb H' H4 → Rs H4) →
      g x (wipe σ vs) H' fun σ2 H2 => wipe σ2 vs = wipe σ vs ∧ tt σ2 H2 fun b H3 => if b = true then tk σ2 H3 fun y H4 => tv σ2 H4 fun z H5 => Rk y z H5 else Rs H3)
    (done : ∀ H, Gr Tb H1 H → H D = some (.dK (dS (putAll [] ((List.range n).filterMap F)))) → Qd H) :
    ∃ W : Nat → Nat → Hp → Prop, (∃ m, W 0 m (upd H1 D (.dK []))) ∧ ∀ i m H, W i m H →
      (J.stop i H ∧ Qd H) ∨ (J.go i H ∧ ∃ Nx : Hp → Prop, (∀ H', Nx H' → ∃ m', m' < m ∧ W (i + 1) m' H') ∧ ∀ x H', J.yld i H x H' → g x (wipe σ vs) H' fun σ2 H2 => wipe σ2 vs = wipe σ vs ∧ tt σ2 H2 fun b H3 =>
        if b = true then tk σ2 H3 fun y H4 => tv σ2 H4 fun z H5 => ∃ kvs k, y = kV k ∧ H5 D = some (.dK kvs) ∧ kvs.length < sizeLine ∧ Nx (upd H5 D (.dK (putK kvs k z))) else Nx H3) := by
  have h0 : Gr Tb H1 (upd H1 D (.dK [])) := Gr.new hD
  let P : Nat → Hp → Prop := fun i H => Gr Tb H1 H ∧ H D = some (.dK (dS (putAll [] ((List.range i).filterMap F))))
  refine ⟨fun i m H => m = n - i ∧ i ≤ n ∧ P i H, ⟨n, rfl, Nat.zero_le _, h0, upd_same⟩, ?_⟩
  rintro i m H ⟨rfl, hi, p⟩
  have q := hG H p.1
  by_cases hlt : i < n
  · refine .inr ⟨wk.goes i H hlt q, P (i + 1), fun H' p' => ⟨n - (i + 1), by omega, rfl, hlt, p'⟩, fun x H' y => ?_⟩
    have yy := wk.yields i H x H' hlt q y
    have g1 := p.1.trans (hY _ _ _ _ yy)
    have hd := (hY _ _ _ _ yy).at p.2 .dK
    have lle : (putAll [] ((List.range i).filterMap F)).length ≤ 100000 := by
      have h1 := putAll_len ((List.range i).filterMap F) []
      have h2 : ((List.range i).filterMap F).length ≤ i := Nat.le_trans (List.length_filterMap_le _ _) (by rw [List.length_range]; exact Nat.le_refl _)
      have h3 : ([] : Num).length = 0 := rfl
      omega
    refine turn i x H H' hlt g1 yy (fun y z H5 => ∃ kvs k, y = kV k ∧ H5 D = some (.dK kvs) ∧ kvs.length < sizeLine ∧ P (i + 1) (upd H5 D (.dK (putK kvs k z)))) (P (i + 1)) (fun q H4 e gr => ?_) (fun H4 e gr => ?_)
    · have hd4 := gr.at hd .dK
      refine ⟨_, Sum.inr q.1, rfl, hd4, ?_, Gr.putD hD (g1.trans gr) hd4, ?_⟩
      · rw [dS_len, sizeLine_eq]
        omega
      · rw [upd_same, List.range_succ, List.filterMap_append, putK_dS]
        unfold putAll
        rw [List.foldl_append, List.filterMap_cons, e]
        rfl
    · refine ⟨g1.trans gr, ?_⟩
      rw [List.range_succ, List.filterMap_append, List.filterMap_cons, e, gr.at hd .dK]
      simp
  · have e : i = n := by omega
    subst e
    exact .inl ⟨wk.stops H q, done H p.1 p.2⟩
theorem fm_range {α β : Type} (f : α → Option β) : ∀ l : List α, (List.range l.length).filterMap (fun i => l[i]?.bind f) = l.filterMap f := by
  intro l
  have key : ∀ n, n ≤ l.length → (List.range n).filterMap (fun i => l[i]?.bind f) = (l.take n).filterMap f := by
    intro n
    induction n with
    | zero => intro _; rfl
    | succ n ih =>
      intro h
      obtain ⟨x, hx⟩ : ∃ x, l[n]? = some x := ⟨_, List.getElem?_eq_getElem (by omega)⟩
      rw [List.range_succ, List.filterMap_append, ih (by omega), filterMap_take f l hx, List.filterMap_cons, hx]
      show _ ++ (match f x with | none => _ | some b => _) = _
      cases f x <;> rfl
  have := key l.length (Nat.le_refl _)
  rwa [List.take_length] at this
/-- the numbers that are not zero -/
def posN (es : List Ent) (f : Str → Int) : Num := numOf (es.filter fun e => decide (f e.name ≠ 0)) f
theorem posN_nodup {es : List Ent} {f : Str → Int} (h : (es.map (·.name)).Nodup) : ((posN es f).map (·.1)).Nodup := by
  unfold posN
  rw [numOf_names]
  exact h.sublist ((List.filter_sublist (l := es)).map _)
theorem getD_posN {es : List Ent} {f : Str → Int} {x : Str} (h : x ∈ es.map (·.name)) : getD (posN es f) x = f x := by
  by_cases q : f x = 0
  · rw [q]
    refine getD_none fun hm => ?_
    unfold posN at hm
    rw [numOf_names] at hm
    obtain ⟨e, he, rfl⟩ := List.mem_map.mp hm
    exact of_decide_eq_true (List.mem_filter.mp he).2 q
  · refine getD_numOf ?_
    obtain ⟨e, he, rfl⟩ := List.mem_map.mp h
    exact List.mem_map.mpr ⟨e, List.mem_filter.mpr ⟨he, decide_eq_true q⟩, rfl⟩
/-! ### what put does -/
theorem get?_cons (q : Str × Int) (d : Num) (x : Str) : get? (q :: d) x = if q.1 = x then some q.2 else get? d x := by
  unfold get?
  rw [List.find?_cons]
  by_cases h : q.1 = x
  · rw [if_pos h, show decide (q.1 = x) = true from decide_eq_true h]
    rfl
  · rw [if_neg h, show decide (q.1 = x) = false from decide_eq_false h]
theorem get?_app_new {d : Num} {x y : Str} {i : Int} : get? (d ++ [(x, i)]) y = match get? d y with | some j => some j | none => if x = y then some i else none := by
  induction d with
  | nil =>
    rw [List.nil_append, get?_cons]
    rfl
  | cons q d ih =>
    rw [List.cons_append, get?_cons, get?_cons, ih]
    by_cases h : q.1 = y
    · rw [if_pos h, if_pos h]
    · rw [if_neg h, if_neg h]
theorem get?_map {d : Num} {x y : Str} {i : Int} : get? (d.map fun q => if q.1 = x then (q.1, i) else q) y = if y = x ∧ y ∈ d.map (·.1) then some i else get? d y := by
  induction d with
  | nil =>
    rw [if_neg (fun z => by cases z.2)]
    rfl
  | cons q d ih =>
    rw [List.map_cons, get?_cons, get?_cons, ih, List.map_cons]
    by_cases h1 : q.1 = x
    · rw [if_pos h1]
      show (if q.1 = y then some i else _) = _
      by_cases h2 : q.1 = y
      · rw [if_pos h2, if_pos ⟨h2.symm.trans h1, by rw [h2]; exact List.mem_cons_self ..⟩]
      · rw [if_neg h2, if_neg h2]
        by_cases h3 : y = x
        · exact absurd (h1.trans h3.symm) h2
        · rw [if_neg fun z => h3 z.1, if_neg fun z => h3 z.1]
    · rw [if_neg h1]
      by_cases h2 : q.1 = y
      · rw [if_pos h2, if_pos h2, if_neg fun z => h1 (h2.trans z.1)]
      · rw [if_neg h2, if_neg h2]
        by_cases h3 : y = x ∧ y ∈ d.map (·.1)
        · rw [if_pos h3, if_pos ⟨h3.1, List.mem_cons_of_mem _ h3.2⟩]
        · rw [if_neg h3, if_neg fun z => h3 ⟨z.1, (List.mem_cons.mp z.2).resolve_left fun w => h2 w.symm⟩]
theorem mem_of_get? {d : Num} {x : Str} {i : Int} (h : get? d x = some i) : x ∈ d.map (·.1) := by
  cases q : decide (x ∈ d.map (·.1)) with
  | true => exact of_decide_eq_true q
  | false =>
    rw [get?_none (of_decide_eq_false q)] at h
    cases h
theorem get?_of_mem {d : Num} {x : Str} (h : x ∈ d.map (·.1)) : ∃ i, get? d x = some i := by
  induction d with
  | nil => cases h
  | cons q d ih =>
    rw [get?_cons]
    by_cases e : q.1 = x
    · exact ⟨_, if_pos e⟩
    · rw [if_neg e]
      rw [List.map_cons] at h
      exact ih ((List.mem_cons.mp h).resolve_left fun z => e z.symm)
theorem any_mem {d : Num} {x : Str} : (d.any fun q => decide (q.1 = x)) = true ↔ x ∈ d.map (·.1) := by
  rw [List.any_eq_true]
  constructor
  · rintro ⟨q, hq, e⟩
    exact List.mem_map.mpr ⟨q, hq, of_decide_eq_true e⟩
  · intro h
    obtain ⟨q, hq, e⟩ := List.mem_map.mp h
    exact ⟨q, hq, decide_eq_true e⟩
theorem get?_put (d : Num) (x y : Str) (i : Int) : get? (put d x i) y = if y = x then some i else get? d y := by
  by_cases h : x ∈ d.map (·.1)
  · unfold put
    rw [if_pos (any_mem.mpr h), get?_map]
    by_cases e : y = x
    · rw [if_pos e, if_pos ⟨e, e ▸ h⟩]
    · rw [if_neg e, if_neg fun z => e z.1]
  · rw [put_new' h, get?_app_new]
    by_cases e : y = x
    · rw [if_pos e, e, get?_none h]
      show (if x = x then some i else none) = _
      rw [if_pos rfl]
    · rw [if_neg e]
      cases get? d y with
      | some j => rfl
      | none => exact if_neg fun z => e z.symm
theorem getD_put (d : Num) (x y : Str) (i : Int) : getD (put d x i) y = if y = x then i else getD d y := by
  unfold getD
  rw [get?_put]
  split <;> rfl
theorem put_keys (d : Num) (x y : Str) (i : Int) : y ∈ (put d x i).map (·.1) ↔ y = x ∨ y ∈ d.map (·.1) := by
  constructor
  · intro h
    obtain ⟨j, hj⟩ := get?_of_mem h
    rw [get?_put] at hj
    by_cases e : y = x
    · exact .inl e
    · rw [if_neg e] at hj
      exact .inr (mem_of_get? hj)
  · intro h
    by_cases e : y = x
    · exact mem_of_get? (i := i) (by rw [get?_put, if_pos e])
    · obtain ⟨j, hj⟩ := get?_of_mem (h.resolve_left e)
      exact mem_of_get? (i := j) (by rw [get?_put, if_neg e, hj])
theorem put_nodup {d : Num} {x : Str} {i : Int} (h : (d.map (·.1)).Nodup) : ((put d x i).map (·.1)).Nodup := by
  by_cases q : x ∈ d.map (·.1)
  · unfold put
    rw [if_pos (any_mem.mpr q), List.map_map]
    have : ((fun q : Str × Int => q.1) ∘ fun q => if q.1 = x then (q.1, i) else q) = fun q => q.1 := by
      funext q
      show (if q.1 = x then (q.1, i) else q).1 = q.1
      split <;> rfl
    rw [this]
    exact h
  · rw [put_new' q, List.map_append]
    refine List.nodup_append.mpr ⟨h, by simp, fun a ha b hb e => ?_⟩
    have hb2 : b = x := List.mem_singleton.mp hb
    rw [e, hb2] at ha
    exact q ha
theorem getD_mem {d : Num} (h : (d.map (·.1)).Nodup) {q : Str × Int} (hq : q ∈ d) : getD d q.1 = q.2 := by
  unfold getD
  induction d with
  | nil => cases hq
  | cons z d ih =>
    rw [List.map_cons, List.nodup_cons] at h
    rw [get?_cons]
    rcases List.mem_cons.mp hq with e | hq
    · rw [if_pos (by rw [e]), e]
      rfl
    · rw [if_neg fun e => h.1 (List.mem_map.mpr ⟨q, hq, e.symm⟩)]
      exact ih h.2 hq
theorem get?_mem {d : Num} (h : (d.map (·.1)).Nodup) {q : Str × Int} (hq : q ∈ d) : get? d q.1 = some q.2 := by
  obtain ⟨i, hi⟩ := get?_of_mem (List.mem_map.mpr ⟨q, hq, rfl⟩ : q.1 ∈ d.map (·.1))
  have := getD_mem h hq
  unfold getD at this
  rw [hi] at this ⊢
  exact congrArg some this
/-- two dicts of numbers that are not zero, alike at each name -/
theorem num_eq {c d : Num} (hc : (c.map (·.1)).Nodup) (hd : (d.map (·.1)).Nodup) (zc : ∀ q ∈ c, q.2 ≠ 0) (zd : ∀ q ∈ d, q.2 ≠ 0) (e : ∀ x, getD c x = getD d x) : c.length = d.length ∧ ∀ q ∈ c, get? d q.1 = some q.2 := by
  have key : ∀ {c d : Num}, (c.map (·.1)).Nodup → (∀ q ∈ c, q.2 ≠ 0) → (∀ x, getD c x = getD d x) → ∀ x ∈ c.map (·.1), x ∈ d.map (·.1) := fun {c d} hc zc e x hx => by
    obtain ⟨q, hq, rfl⟩ := List.mem_map.mp hx
    cases z : decide (q.1 ∈ d.map (·.1)) with
    | true => exact of_decide_eq_true z
    | false =>
      have h1 := e q.1
      rw [getD_mem hc hq, getD_none (of_decide_eq_false z)] at h1
      exact absurd h1 (zc q hq)
  have k1 := key hc zc e
  have k2 := key hd zd fun x => (e x).symm
  refine ⟨?_, fun q hq => ?_⟩
  · have p : (c.map (·.1)).Perm (d.map (·.1)) := (List.perm_ext_iff_of_nodup hc hd).mpr fun x => ⟨k1 x, k2 x⟩
    have := p.length_eq
    rwa [List.length_map, List.length_map] at this
  · obtain ⟨i, hi⟩ := get?_of_mem (k1 q.1 (List.mem_map.mpr ⟨q, hq, rfl⟩))
    have h1 := e q.1
    rw [getD_mem hc hq] at h1
    unfold getD at h1
    rw [hi] at h1 ⊢
    exact congrArg some h1.symm
/-- d1 != d2, alike -/
theorem rd_neD {H : Hp} {a b : Addr} {c d : Num} {Q : VK} (ha : H a = some (.dK (dS c))) (hb : H b = some (.dK (dS d))) (hl : c.length = d.length) (h : ∀ q ∈ c, get? d q.1 = some q.2) (q : Q (.bl false) H) : rNeDA (.ref a) (.ref b) H Q :=
  ⟨a, b, _, _, rfl, rfl, ha, hb, by rw [dS_len, dS_len]; exact hl, fun p hp => by
    unfold dS at hp
    obtain ⟨z, hz, rfl⟩ := List.mem_map.mp hp
    refine ⟨?_, rfl⟩
    show valV (dS d) (Sum.inr z.1) = some (V.int z.2)
    rw [valV_dS, h z hz]
    rfl, q⟩
/-! ### dict([(name, number) ..]), for name in d -/
theorem mergeK_dS (l : Num) : ∀ d : Num, mergeK (dS d) (dS l) = dS (putAll d l) := by
  induction l with
  | nil => intro d; rfl
  | cons q l ih =>
    intro d
    show mergeK (putK (dS d) (Sum.inr q.1) (.int q.2)) (dS l) = dS (putAll (put d q.1 q.2) l)
    rw [putK_dS, ih]
theorem merge_new {l : Num} (h : (l.map (·.1)).Nodup) : mergeK [] (dS l) = dS l := by
  have := mergeK_dS l []
  rw [putAll_new l [] h] at this
  exact this
/-- a row of a name and its number -/
def PRow (H : Hp) (val : Str → Int) (x y : V) : Prop := ∃ t n, x = .str n ∧ y = .ref t ∧ H t = some (.tup [.str n, .int (val n)])
theorem pairs_dict {K : PySem.W.Frag} {H : Hp} {val : Str → Int} : ∀ {ns : List Str} {ys : List V}, Paired (PRow H val) (ns.map V.str) ys → ∃ ps : List Addr, ys = ps.map V.ref ∧ Paired (fun p kv => SqT K H p [kV kv.1, kv.2]) ps (dS (ns.map fun n => (n, val n)))
  | [], _, .nil => ⟨[], rfl, .nil⟩
  | n :: ns, _, .cons ⟨t, n', e, e2, h⟩ p => by
    cases e
    subst e2
    obtain ⟨ps, h1, h2⟩ := pairs_dict p
    exact ⟨t :: ps, by rw [h1]; rfl, .cons (SqT.of h) h2⟩
theorem walk_keysS {d : Addr} {o : Obj} {n : Num} : Walk (Itk d o (dS n)) n.length (fun H => H d = some (.frz o (.dK (dS n)))) (YAt ((n.map (·.1)).map V.str)) := by
  have w := walk_keys (d := d) (o := o) (kvs := dS n)
  rw [dS_len] at w
  refine w.mono (fun _ h => h) fun i H x H' hi _ y => ?_
  obtain ⟨h1, k, v, h2, h3⟩ := y
  refine ⟨h1, ?_⟩
  unfold dS at h2
  rw [List.getElem?_map] at h2
  cases hq : n[i]? with
  | none => rw [hq] at h2; cases h2
  | some q =>
    rw [hq] at h2
    cases h2
    rw [List.getElem?_map, List.getElem?_map, hq, h3]
    rfl
def stockO (H : Hp) (d : Num) (v : V) : Option (Str × Int) := match itemAt H 0 v with
  | some (.str n) => some (n, getD d n)
  | _ => none
theorem stockO_at {H : Hp} {d : Num} {v : V} {e : Ent} (h : EntAt H v e) : stockO H d v = some (e.name, getD d e.name) := by
  obtain ⟨t, l, rfl, ht, _⟩ := h
  unfold stockO
  rw [itemAt_tup ht]
  rfl
/-- {name: stock.get(name, 0) for name, weight, parts in entries} -/
theorem dc_stock {Tb : List (Addr × Str)} {K : PySem.W.Frag} {a b : Addr} {xs : List V} {es : List Ent} {st : Num} {i j k l : Nat} {σ : L2.St} {H1 : Hp} {D : Addr} {Qd : Hp → Prop} (ha : SqL K H1 a xs) (hc : CatAt H1 xs es) (hb : H1 b = some (.dK (dS st))) (hnd : (es.map (·.name)).Nodup) (hz : es.length ≤ 100000) (hD : H1 D = none)
    (hw : ∀ n w p, wipe ((((wipe σ [i, j, k]).set i n).set j w).set k p) [i, j, k] = wipe σ [i, j, k]) (h1 : ∀ n w p, ((((wipe σ [i, j, k]).set i n).set j w).set k p)[i]? = some n) (h2 : ∀ n w p, ((((wipe σ [i, j, k]).set i n).set j w).set k p)[l]? = some (some (.ref b)))
    (done : ∀ H, Gr Tb H1 H → H D = some (.dK (dS (numOf es (getD st)))) → Qd H) :
    ∃ W : Nat → Nat → Hp → Prop, (∃ m, W 0 m (upd H1 D (.dK []))) ∧ ∀ r m H, W r m H →
      ((Itl K a).stop r H ∧ Qd H) ∨ ((Itl K a).go r H ∧ ∃ Nx : Hp → Prop, (∀ H', Nx H' → ∃ m', m' < m ∧ W (r + 1) m' H') ∧ ∀ x H', (Itl K a).yld r H x H' → (gTup K 3 (gCons (gName i) (gCons (gName j) (gCons (gName k) gNil)))) x (wipe σ [i, j, k]) H' fun σ2 H2 => wipe σ2 [i, j, k] = wipe σ [i, j, k] ∧ tYes σ2 H2 fun b H3 =>
        if b = true then tVar i σ2 H3 fun y H4 => (tDGet2 (tVar l) (tVar i) (tC (.int 0))) σ2 H4 fun z H5 => ∃ kvs k, y = kV k ∧ H5 D = some (.dK kvs) ∧ kvs.length < sizeLine ∧ Nx (upd H5 D (.dK (putK kvs k z))) else Nx H3) := by
  have hl := Paired.len hc
  refine dc_fm (Tb := Tb) (xs := xs) walk_list rfl (stockO H1 st) hD (by omega) (fun H' g => g.ext_seq ha) (fun j' v H' hv g Rk Rs hk hs => ?_) fun H' g hD' => ?_
  · obtain ⟨e, he, hev⟩ := Paired.at hc hv
    have hco := stockO_at (d := st) hev
    obtain ⟨t, lp, rfl, ht, hlp⟩ := hev
    have hb' := g.at hb .dK
    refine gtup3 (g.at ht .tup) ⟨hw _ _ _, _, h1 _ _ _, _, h2 _ _ _, b, rfl, IsD.num hb', _, h1 _ _ _, _, dgetO hb' e.name, ?_⟩
    rw [getO]
    exact hk (e.name, getD st e.name) _ hco (Gr.refl _)
  · have e : xs.filterMap (stockO H1 st) = numOf es (getD st) := fm_paired (fun v e h => stockO_at h) hc
    rw [e, putAll_new _ _ (by rw [List.nil_append, numOf_names]; exact hnd), List.nil_append] at hD'
    exact done H' g hD'
end Sk
/-! x = {..: .. for ..}, x a local name: the comprehension stores its dict itself -/
namespace Sk
open PySem PySem.Spec PyProof.Rows L2
section
variable {X : Cx}
theorem swD_true {kx vx : Expr} {gs : List Comprehension} {scope : Scope} {pos py : Pos} {y : Str} {l : Nat} {env : Env} (hk : env.scope.kind = .function) (hy : env.scope.names.lookup y = some .local) (hl : (py.line == pos.line) = true)
    (ha : (scope.names.any fun (n, k) => n == y && (k == .local || k == .cell)) = false) : swapsWith (.DictComp kx vx gs scope pos) (some (.Name y py)) l env = pure true := by
  have e1 : env.kindOf y = some .local := hy
  have e2 : env.blockKind = .function := by
    unfold Env.blockKind
    rw [hk]
    rfl
  unfold swapsWith
  simp only [e1, e2, ha, Expr.pos, hl] <;> rfl
theorem ps_setDc {i : Nat} {y : Str} {py : Pos} {kx vx tg iter : Expr} {ifs : List Expr} {scope : Scope} {own : List (Str × Nat)} {pos spos : Pos} {wi : TI} {g : TG} {tt : TT} {tk tv : TE} (hc : X.calm = true) (hN : X.N.Nodup) (hy : X.N[i]? = some y)
    (hyl : X.env.scope.names.lookup y = some .local) (hsw : swapsWith (.DictComp kx vx [⟨tg, iter, ifs, 0⟩] scope pos) (some (.Name y py)) spos.line X.env = pure true) (hi : PI X tg iter wi) (ok : BlkOk X.N X.env.scope scope own)
    (hg : ∀ s H C cl fp, PG (X.blk s H scope (compEnvC scope cl C X.env) fp) tg g) (ht : ∀ s H C cl fp, PTs (X.blk s H scope (compEnvC scope cl C X.env) fp) ifs tt)
    (hk : ∀ s H C cl fp, PE (X.blk s H scope (compEnvC scope cl C X.env) fp) kx tk) (he : ∀ s H C cl fp, PE (X.blk s H scope (compEnvC scope cl C X.env) fp) vx tv) (hs : ∀ x, foldedSetIterable iter X.env x = pure x := by intro _; rfl) :
    PS X (.Assign [.Name y py] (.DictComp kx vx [⟨tg, iter, ifs, 0⟩] scope pos) spos) (tAsg (tDc wi g tt tk tv (own.map (·.2))) (gName i)) := by
  refine ⟨fun pins s σ H D I h0 => ?_⟩
  rw [exec_Assign_Name_used _ _ _ _ hsw]
  have h : tDc wi g tt tk tv (own.map (·.2)) σ H (fun x H1 => gName i x σ H1 D.nx) := h0
  refine wpAny_bind (wpAny_standAt (wpAny_bind ?_))
  show wpAny _ X.A (do
    let _ ← comprehension (.DictComp kx vx [⟨tg, iter, ifs, 0⟩] scope pos) scope X.env (firstIterPos [⟨tg, iter, ifs, 0⟩] pos) newDict false (eval iter X.env) (some (assign (.Name y py) X.env))) _ _ s
  refine wpAny_bind (thn (dc_core (Qf := fun _ s' => SP X pins D .next s') hc hN I hi ok hg ht hk he hs h fun L C s' m H' J q hn f => ?_) fun _ s' hq => wpAny_pure (wpAny_pure hq))
  obtain ⟨f0, f1, f2, f3, f4, f5⟩ := f
  show wpAny _ _ (assign (.Name y py) X.env (.ref L)) _ _ _
  refine wpAny_assign_Name (store_ok2 (v := V.ref L) J hN hy (.inl hyl) rfl (fun s2 J2 ⟨a, sb, ha⟩ => ?_) (.inr hyl))
  have ne : C ≠ a := fun e => by
    rcases ha with z | z
    · exact f1 (e.trans z)
    · exact f4 y a z e.symm
  exact ⟨m, hn.sameBut sb ne, fun h3 sb3 => ⟨_, H', J2.turned (t' := s2.toks) (fun b o hb e => (sb3.2 b hb).trans e) f0 f1 f3 f4 f5, q⟩⟩
end
end Sk
/-! sum(d.values()) -/
namespace Sk
open PySem PySem.Spec PyProof.Rows L2
section
variable {X : Cx} {o : Expr} {p pos apos mpos : Pos} {td : TE}
/-- sum(o.values()), a dict whose values are ints -/
def tSumVals (td : TE) : TE := fun σ H Q => td σ H fun x H1 => ∃ (a : Addr) (kvs : List (Key × V)) (is : List Int), x = V.ref a ∧ H1 a = some (.dK kvs) ∧ kvs.map (·.2) = is.map V.int ∧ Q (.int is.sum) H1
theorem pe_sumVals (hc : X.calm = true) (hg : Gl X "sum") (hm : X.mg "sum" = none) (hd : PE X o td) (hbase : attributeBase o "values" X.env (eval o X.env) = eval o X.env := by rfl) (hline : (apos.endLine == mpos.line) = true := by rfl)
    (hse : starEach [Expr.Call (.Attribute o "values" apos) [] [] mpos] X.env = [(false, eval (Expr.Call (.Attribute o "values" apos) [] [] mpos) X.env)] := by rfl) :
    PE X (.Call (.Name "sum" p) [.Call (.Attribute o "values" apos) [] [] mpos] [] pos) (tSumVals td) := by
  refine ⟨fun pins s σ H Q I h => ?_⟩
  refine wpAny_Call_Name_kw (ld_blt I hg hm (u := .builtin "sum") (by first | rfl | decide +kernel) ?_ (by decide +kernel) (by decide +kernel))
  rw [hse]
  refine PySem.callWith_builtin1 (wpAny_Call_method0_late hbase hline (thn (hd.run pins s σ H _ I h) fun v s1 ⟨x, H1, I1, r1, a, kvs, is, ex, ha, hv, q⟩ => ?_))
  subst ex
  obtain rfl : v = Value.ref a := r1
  obtain ⟨_, hsys, vs, rel, dof⟩ := dk_of I1.hok ha
  obtain ⟨ep, dat⟩ := dof.dictAt
  obtain ⟨ob, es, ho, ex, hdat, hko, hpr, hnd⟩ := id dat
  refine ⟨"dict", "dict.values", F.plainAttrs_dict, F.slot_dict_values, F.type_dict_values, ⟨ob, ho, ex.1⟩, fun b e => ?_, Calls.callWith_builtin rfl (PySem.evalArgs_none ?_)⟩
  · cases e
    exact ⟨ob, ho, ex.2.1⟩
  refine call_meetsIn F.slot_dict_values ⟨ob, ho, ex.1⟩ F.entry_dict_values (F.args_dict_values_1 _) (meets_dict_values (mixKind X.prog X.w) a hsys) ⟨⟨vs, dof⟩, ?_⟩
  have up : ∀ b u, s1.heap.get? b = some u → (s1.heap.push { cls := .type "dict_values", data := .fields #[.ref a] }).get? b = some u := fun b u e => Heap.get?_push_of_some _ e
  have datV := dat.keep up
  have lv : vs.length = is.length := by
    have e1 := congrArg List.length hv
    rw [List.length_map, List.length_map] at e1
    rw [← e1, ← KV.length rel]
  have vals : ∀ (i : Nat) (u : Value), (∃ k, vs[i]? = some (k, u)) → ∃ t, u = Value.int (is.getD i 0) t := by
    rintro i u ⟨k, hk⟩
    obtain ⟨x, h1, h2⟩ := KV.at' rel hk
    have e1 : (is.map V.int)[i]? = some x := by
      rw [← hv, List.getElem?_map, h1]
      rfl
    rw [List.getElem?_map] at e1
    obtain ⟨j, hj, rfl⟩ := Option.map_eq_some_iff.mp e1
    obtain ⟨t, e3⟩ := h2
    exact ⟨t, by rw [e3, List.getD_eq_getElem?_getD, hj]; rfl⟩
  have hlt : a < s1.heap.objs.size := Heap.lt_size ho
  have sz : (s1.heap.push { cls := .type "dict_values", data := .fields #[.ref a] }).objs.size = s1.heap.objs.size + 1 := Heap.size_push _ _
  refine call_sum_walkAnyS (wpAny_pyIter_values (v := s1.heap.objs.size) (d := a) ⟨_, Heap.get?_push_size _ rfl, rfl, rfl⟩ datV ?_)
  refine ⟨_, _, _, _, _, _, _, fun i => is.getD i 0, rfl, (Walks.dictValues (knd := mixKind X.prog X.w) (A := X.A.in1) (I.ok.hd hc) _ a (by rw [sz]; exact Nat.ne_of_lt (Nat.lt_succ_of_lt hlt)) vs ep).toS,
    ⟨⟨_, Heap.get?_push_size _ rfl, rfl, rfl⟩, datV.keep fun b u e => Heap.get?_push_of_some _ e⟩, fun b hb => ?_, vals, fun s' t' hm => ?_⟩
  · show b < ((s1.heap.push _).push _).objs.size
    rw [Heap.size_push, Heap.size_push]
    rw [sz] at hb
    rcases List.mem_cons.mp hb with e | hb
    · rw [e]
      exact Nat.lt_succ_self _
    · rw [List.mem_singleton.mp hb]
      exact Nat.lt_succ_of_lt (Nat.lt_succ_of_lt hlt)
  · have e : preSum (fun i => is.getD i 0) vs.length = is.sum := by
      rw [lv]
      clear lv vals q hv
      have key : ∀ n, n ≤ is.length → preSum (fun i => is.getD i 0) n = (is.take n).sum := by
        intro n
        induction n with
        | zero => intro _; rfl
        | succ n ih =>
          intro hn
          show preSum _ n + is.getD n 0 = _
          rw [ih (by omega), List.take_add_one, List.sum_append, List.getD_eq_getElem?_getD, List.getElem?_eq_getElem (by omega)]
          simp
      rw [key _ (Nat.le_refl _), List.take_length]
    rw [e, Moved.eq_with hm]
    refine ⟨.int is.sum, H1, I1.kept (t' := s'.toks) fun b u e => hm.heap b u (fun hmem => ?_) (Heap.get?_push_of_some _ (up b u e)), ⟨t', rfl⟩, q⟩
    have e1 := List.mem_singleton.mp hmem
    have e2 := Heap.lt_size e
    rw [e1, sz] at e2
    exact absurd e2 (Nat.not_lt.mpr (Nat.le_succ _))
end
end Sk
/-! rules whose reading names the written part K, K told apart (within a comprehension) -/
namespace Sk
open PySem PySem.Spec PyProof.Rows L2
section
variable {X : Cx} {K : PySem.W.Frag}
theorem ixL (e : X.K = K) : IxR X (rIxL K) := by subst e; exact ix_list
theorem ixT (e : X.K = K) : IxR X (rIxT K) := by subst e; exact ix_tup
/-- an item of a list or of a tuple -/
def rIxA (K : PySem.W.Frag) : R2 := fun x y H Q => ∃ p xs i v, x = .ref p ∧ y = .int i ∧ (SqL K H p xs ∨ SqT K H p xs) ∧ atI xs i = some v ∧ Q v H
theorem ixA (e : X.K = K) : IxR X (rIxA K) := by
  intro va sl pins s σ H x y v u Q I rx ry h
  obtain ⟨p, xs, i, z, h1, h2, h3 | h3, h4, h5⟩ := h
  · exact ixL e va sl pins s σ H x y v u Q I rx ry ⟨p, xs, i, z, h1, h2, h3, h4, h5⟩
  · exact ixT e va sl pins s σ H x y v u Q I rx ry ⟨p, xs, i, z, h1, h2, h3, h4, h5⟩
theorem slL (e : X.K = K) : SlR X (rSlL K) := by subst e; exact sl_list
theorem slT (e : X.K = K) : SlR X (rSlT K) := by subst e; exact sl_tup
theorem opIn (e : X.K = K) : OpR X (compareOp .In) (rIn K false) := by subst e; exact op_in_seq
theorem opNotIn (e : X.K = K) : OpR X (compareOp .NotIn) (rIn K true) := by subst e; exact op_notIn_seq
theorem opEqD (e : X.K = K) (hu : X.A.units + 64 < cLine) : OpR X (compareOp .Eq) (rEqD K) := by subst e; exact op_eqD hu
theorem opNeD (e : X.K = K) (hu : X.A.units + 64 < cLine) : OpR X (compareOp .NotEq) (rNeD K) := by subst e; exact op_neD hu
theorem opEqNil (e : X.K = K) (hu : X.A.units + 64 < cLine) : OpR X (compareOp .Eq) (rNil K false) := by subst e; exact op_eqNil hu
theorem opNeNil (e : X.K = K) (hu : X.A.units + 64 < cLine) : OpR X (compareOp .NotEq) (rNil K true) := by subst e; exact op_neNil hu
/-- len of a list -/
def rLenL (K : PySem.W.Frag) : List V → Hp → VK → Prop := fun xs H Q => ∃ p ys, xs = [.ref p] ∧ (SqL K H p ys ∨ SqT K H p ys) ∧ Q (.int (List.length ys : Nat)) H
theorem lenS (e : X.K = K) : CallR X (.builtin "len") (rLenL K) := by subst e; exact call_len_seq
def rListOf (K : PySem.W.Frag) : List V → Hp → VK → Prop := fun xs H Q => ∃ p ys, xs = [.ref p] ∧ (SqL K H p ys ∨ SqT K H p ys) ∧ ∀ l, H l = none → Q (.ref l) (upd H l (.lst ys))
theorem listOf (e : X.K = K) : CallR X (.type "list") (rListOf K) := by subst e; exact call_list_of
theorem crSum (e : X.K = K) (hc : X.calm = true) : CallR X (.builtin "sum") (rSum K) := by subst e; exact cr_sum hc
theorem crMax (e : X.K = K) (hc : X.calm = true) : CallR X (.builtin "max") (rMax K) := by subst e; exact cr_max hc
theorem crMin (e : X.K = K) (hc : X.calm = true) : CallR X (.builtin "min") (rMin K) := by subst e; exact cr_min hc
theorem crAll (e : X.K = K) (hc : X.calm = true) : CallR X (.builtin "all") (rAll K) := by subst e; exact cr_all hc
theorem crAny (e : X.K = K) (hc : X.calm = true) : CallR X (.builtin "any") (rAny K) := by subst e; exact cr_any hc
theorem crSortedS (e : X.K = K) : CallR X (.builtin "sorted") (rSortedS K) := by subst e; exact cr_sortedS
theorem crSortedI (e : X.K = K) : CallR X (.builtin "sorted") (rSortedI K) := by subst e; exact cr_sortedI
theorem crSortedT (e : X.K = K) : CallR X (.builtin "sorted") (rSortedT K) := by subst e; exact cr_sortedT
def rDictP (K : PySem.W.Frag) : List V → Hp → VK → Prop := fun xs H Q => ∃ (a : Addr) (ps : List Addr) (kvs : List (Key × V)), xs = [.ref a] ∧ SqL K H a (ps.map V.ref) ∧ Paired (fun p kv => SqT K H p [kV kv.1, kv.2]) ps kvs ∧
    ∀ p, H p = none → Q (.ref p) (upd H p (.dK (mergeK [] kvs)))
theorem dictP (e : X.K = K) (hc : X.calm = true) : CallR X (.type "dict") (rDictP K) := by subst e; exact call_dictP hc
theorem isiR (e : X.K = K) : CallR X (.builtin "isinstance") (rIsi K) := by subst e; exact call_isi
variable {tg l o e1 : Expr} {es : List Expr} {tl to te : TE} {ta : TA} {p pos apos cpos tpos : Pos} {elts : List Expr} {kk : Nat} {name : Str} {T id : String} {r : V → List V → Hp → VK → Prop}
theorem piL (e : X.K = K) (hl : PE X l tl) : PI X tg l (iList K tl) := by subst e; exact pi_list hl
theorem piT (e : X.K = K) (hl : PE X l tl) : PI X tg l (iTup K tl) := by subst e; exact pi_tup hl
theorem piEnum (e : X.K = K) (hg : Gl X "enumerate") (hm : X.mg "enumerate" = none) (ha : PA X [l] ta) (hs : starEach [l] X.env = [(false, eval l X.env)] := by rfl) : PI X (.Tuple elts kk tpos) (.Call (.Name "enumerate" p) [l] [] pos) (iEnum K ta) := by
  subst e
  exact pi_enum hg hm ha hs
theorem piZip (e : X.K = K) (hg : Gl X "zip") (hm : X.mg "zip" = none) (ha : PA X [l, e1] ta) (hs : starEach [l, e1] X.env = (false, eval l X.env) :: starEach [e1] X.env := by rfl) (hpl : (backTo pos (starEach [e1] X.env)).any (·.1) = false := by rfl) :
    PI X (.Tuple elts kk tpos) (.Call (.Name "zip" p) [l, e1] [] pos) (iZip K ta) := by
  subst e
  exact pi_zip hg hm ha hs hpl
theorem piRev (e : X.K = K) (hg : Gl X "reversed") (hm : X.mg "reversed" = none) (ha : PA X [l] ta) (hs : starEach [l] X.env = [(false, eval l X.env)] := by rfl) : PI X tg (.Call (.Name "reversed" p) [l] [] pos) (iRev K ta) := by
  subst e
  exact pi_reversed hg hm ha hs
theorem peBm0 (e : X.K = K) (pa : PlainAttrs T) (slot : Slot T name id) (hty : typeOf (.builtin id) = pure (.type "method_descriptor")) (hm : MtR X id r) (ho : PE X o to)
    (hbase : attributeBase o name X.env (eval o X.env) = eval o X.env := by rfl) (hline : (apos.endLine == cpos.line) = true := by rfl) : PE X (.Call (.Attribute o name apos) [] [] cpos) (tBM0 K T r to) := by
  subst e
  exact pe_bm0 pa slot hty hm ho hbase hline
theorem peBm (e : X.K = K) (pa : PlainAttrs T) (slot : Slot T name id) (hty : typeOf (.builtin id) = pure (.type "method_descriptor")) (hm : MtR X id r) (ho : PE X o to) (ha : PA X (e1 :: es) ta)
    (hbase : attributeBase o name X.env (eval o X.env) = eval o X.env := by rfl)
    (hfew : ((backTo cpos (starEach (e1 :: es) X.env)).all (fun x => !x.1) && (backToKw cpos (keywordEach [] X.env)).all (fun x => x.1.isSome)
      && decide ((e1 :: es).length + ([] : List Keyword).length + (if ([] : List Keyword).isEmpty then 0 else 1) < 30)) = true := by rfl)
    (hline : (apos.endLine == cpos.line) = true := by rfl) (hs : starEach (e1 :: es) X.env = (false, eval e1 X.env) :: starEach es X.env := by rfl) (hplain : (backTo cpos (starEach es X.env)).any (·.1) = false := by rfl) :
    PE X (.Call (.Attribute o name apos) (e1 :: es) [] cpos) (tBM K T r to ta) := by
  subst e
  exact pe_bm pa slot hty hm ho ha hbase hfew hline hs hplain
end
end Sk
/-! repr of lists and tuples, no repr under way; nested data -/
namespace Sk
open PySem PySem.Spec PyProof.Rows L2
mutual
theorem Dp.noDict {K : PySem.W.Frag} {H : Hp} : ∀ {d : PyData} {v : V}, Dp K H v d → d.hasDict = false
  | .none, _, _ => rfl
  | .bool _, _, _ => rfl
  | .int _, _, _ => rfl
  | .str _, _, _ => rfl
  | .list ds, _, .lst _ h => by
    have := DpAll.noDict h
    simpa [PyData.hasDict] using this
  | .tuple ds, _, .tup _ h => by
    have := DpAll.noDict h
    simpa [PyData.hasDict] using this
  | .dict _, _, h => by cases h
theorem DpAll.noDict {K : PySem.W.Frag} {H : Hp} : ∀ {ds : List PyData} {vs : List V}, DpAll K H vs ds → PyData.hasDictAll ds = false
  | [], _, _ => by simp [PyData.hasDictAll]
  | d :: ds, _, .cons a t => by
    have h1 := Dp.noDict a
    have h2 := DpAll.noDict t
    simp [PyData.hasDictAll, h1, h2]
end
def rRepr (K : PySem.W.Frag) : List V → Hp → VK → Prop := fun xs H Q => ∃ (a : Addr) (d : PyData), xs = [.ref a] ∧ Dp K H (.ref a) d ∧ d.showable = true ∧ d.shown.length ≤ sizeLine ∧ d.depth ≤ 60 ∧ Q (.str d.shown) H
theorem crRepr {X : Cx} {K : PySem.W.Frag} (e : X.K = K) (hg : X.A.guards = some []) (hu : X.A.units + 64 < cLine) : CallR X (.builtin "repr") (rRepr K) := by
  subst e
  intro pins s σ H xs us Q I r h
  obtain ⟨a, d, rfl, hd, hs, hz, hdp, q⟩ := h
  obtain ⟨u, rfl, ru⟩ := vals1 r
  obtain ⟨as, rr⟩ := Dp.reads I d _ u hd ru
  obtain rfl : u = Value.ref a := ru
  exact PySem.repr_of_reads' rr hs (fun z => by rw [Dp.noDict hd] at z; cases z) hg (by omega) (fun b o e => e) (fun h' u tk k => ⟨.str d.shown, H, I.kept k, ⟨u, rfl⟩, q⟩) hz
/-! ### data -/
def tyName : PyData → String
  | .none => "NoneType" | .bool _ => "bool" | .int _ => "int" | .str _ => "str" | .list _ => "list" | .tuple _ => "tuple" | .dict _ => "dict"
theorem Dp.tyx {K : PySem.W.Frag} {H : Hp} {x : V} {d : PyData} (h : Dp K H x d) : TyX K H x (.type (tyName d)) := by
  cases h with
  | non => exact .base .non
  | bl b => exact .base (.bl b)
  | int i => exact .base (.int i)
  | str x => exact .base (.str x)
  | lst h _ =>
    rcases h with (h | ⟨o, h⟩) | ⟨o, its, n, h1, h2, _⟩
    · exact .base (.lst h)
    · exact .base (.frz h)
    · exact .kList h1 h2
  | tup h _ =>
    rcases h with (h | ⟨o, h⟩) | ⟨o, its, n, h1, h2, _⟩
    · exact .base (.tup h)
    · exact .fTuple h
    · exact .kTuple h1 h2
theorem rd_isi {K : PySem.W.Frag} {H : Hp} {x : V} {d : PyData} (T : String) (h : Dp K H x d) {b : Bool} (hb : kitB (tyName d) T = some b) {Q : VK} (q : Q (.bl b) H) : rIsi K [x, .ty T] H Q := ⟨x, .ty T, _, .type T, b, rfl, .ty T, Dp.tyx h, kit_ty hb, q⟩
theorem Gr.ext_tup {T : List (Addr × Str)} {K : PySem.W.Frag} {H H' : Hp} {a : Addr} {xs : List V} (g : Gr T H H') (h : SqT K H a xs) : SqT K H' a xs := by
  rcases h with (z | ⟨o, z⟩) | z
  · exact .inl (.inl (g.ext _ _ z (fun ps e => by cases e)))
  · exact .inl (.inr ⟨o, g.ext _ _ z (fun ps e => by cases e)⟩)
  · exact .inr z
mutual
theorem Dp.gr {T : List (Addr × Str)} {K : PySem.W.Frag} {H H' : Hp} (g : Gr T H H') : ∀ {d : PyData} {v : V}, Dp K H v d → Dp K H' v d
  | .none, _, .non => .non
  | .bool _, _, .bl b => .bl b
  | .int _, _, .int i => .int i
  | .str _, _, .str x => .str x
  | .list ds, _, .lst h a => .lst (g.ext_seq h) (DpAll.gr g a)
  | .tuple ds, _, .tup h a => .tup (g.ext_tup h) (DpAll.gr g a)
  | .dict _, _, h => by cases h
theorem DpAll.gr {T : List (Addr × Str)} {K : PySem.W.Frag} {H H' : Hp} (g : Gr T H H') : ∀ {ds : List PyData} {vs : List V}, DpAll K H vs ds → DpAll K H' vs ds
  | [], _, .nil => .nil
  | d :: ds, _, .cons a t => .cons (Dp.gr g a) (DpAll.gr g t)
end
theorem DpAll.len {K : PySem.W.Frag} {H : Hp} : ∀ {ds : List PyData} {vs : List V}, DpAll K H vs ds → vs.length = ds.length
  | [], _, .nil => rfl
  | d :: ds, _, .cons a t => by rw [List.length_cons, List.length_cons, DpAll.len t]
theorem DpAll.at {K : PySem.W.Frag} {H : Hp} : ∀ {ds : List PyData} {vs : List V} {i : Nat} {d : PyData}, DpAll K H vs ds → ds[i]? = some d → ∃ v, vs[i]? = some v ∧ Dp K H v d
  | [], _, _, _, .nil, e => by simp at e
  | _ :: _, _, 0, _, .cons a _, e => by
    cases e
    exact ⟨_, rfl, a⟩
  | _ :: _, _, i + 1, _, .cons _ t, e => DpAll.at (i := i) t (by simpa using e)
theorem depth_mem {ds : List PyData} {d : PyData} (h : d ∈ ds) : d.depth ≤ PyData.depthAll ds := by
  induction ds with
  | nil => cases h
  | cons x xs ih =>
    rw [PyData.depthAll]
    rcases List.mem_cons.mp h with e | h
    · subst e
      omega
    · have := ih h
      omega
mutual
/-- how many values there are in it -/
def cnt : PyData → Nat
  | .list ds => cntAll ds + 1
  | .tuple ds => cntAll ds + 1
  | .none => 1 | .bool _ => 1 | .int _ => 1 | .str _ => 1 | .dict _ => 1
def cntAll : List PyData → Nat
  | [] => 0
  | d :: ds => cnt d + cntAll ds
end
theorem cnt_pos : ∀ d : PyData, 1 ≤ cnt d
  | .list ds => by rw [cnt]; omega
  | .tuple ds => by rw [cnt]; omega
  | .none => by rw [cnt]; omega
  | .bool _ => by rw [cnt]; omega
  | .int _ => by rw [cnt]; omega
  | .str _ => by rw [cnt]; omega
  | .dict _ => by rw [cnt]; omega
theorem cnt_len : ∀ ds : List PyData, ds.length ≤ cntAll ds
  | [] => by rw [cntAll]; exact Nat.le_refl _
  | d :: ds => by
    rw [cntAll, List.length_cons]
    have := cnt_len ds
    have := cnt_pos d
    omega
theorem cnt_mem {ds : List PyData} {d : PyData} (h : d ∈ ds) : cnt d ≤ cntAll ds := by
  induction ds with
  | nil => cases h
  | cons x xs ih =>
    rw [cntAll]
    rcases List.mem_cons.mp h with e | h
    · subst e
      omega
    · have := ih h
      omega
theorem cnt_le {ds : List PyData} {m : Nat} (h : ∀ d ∈ ds, cnt d ≤ m) : cntAll ds ≤ ds.length * m := by
  induction ds with
  | nil => rw [cntAll]; omega
  | cons x xs ih =>
    rw [cntAll, List.length_cons, Nat.add_mul]
    have h1 := h x (List.mem_cons_self ..)
    have h2 := ih fun d hd => h d (List.mem_cons_of_mem _ hd)
    omega
theorem depth_le {ds : List PyData} {m : Nat} (h : ∀ d ∈ ds, d.depth ≤ m) : PyData.depthAll ds ≤ m := by
  induction ds with
  | nil => rw [PyData.depthAll]; omega
  | cons x xs ih =>
    rw [PyData.depthAll]
    have h1 := h x (List.mem_cons_self ..)
    have h2 := ih fun d hd => h d (List.mem_cons_of_mem _ hd)
    omega
/-! ### how long a repr is -/
theorem textFrom_le : ∀ (ts : List Str) (k : Nat) (acc : Str), (textFrom k acc ts).length ≤ acc.length + piled ts
  | [], _, _ => by
    show _ ≤ _ + 0
    exact Nat.le_refl _
  | t :: ts, k, acc => by
    have h := textFrom_le ts (k + 1) (acc ++ (if k > 0 then ", " else "" : String) ++ t)
    have e : (acc ++ (if k > 0 then ", " else "" : String) ++ t).length = acc.length + (if k > 0 then 2 else 0) + t.length := by
      rw [strLen_append, strLen_append]
      split <;> rfl
    rw [e] at h
    rw [piled_cons]
    show (textFrom (k + 1) (acc ++ (if k > 0 then ", " else "" : String) ++ t) ts).length ≤ _
    have : (if k > 0 then 2 else 0 : Nat) ≤ 2 := by split <;> omega
    omega
theorem piled_shown {ds : List PyData} {m : Nat} (h : ∀ d ∈ ds, d.shown.length ≤ m) : piled (PyData.shownAll ds) ≤ ds.length * (m + 2) := by
  induction ds with
  | nil =>
    rw [PyData.shownAll]
    exact Nat.zero_le _
  | cons d ds ih =>
    rw [PyData.shownAll, piled_cons, List.length_cons, Nat.add_mul]
    have h1 := h d (List.mem_cons_self ..)
    have h2 := ih fun x hx => h x (List.mem_cons_of_mem _ hx)
    omega
theorem shown_list {ds : List PyData} {m : Nat} (h : ∀ d ∈ ds, d.shown.length ≤ m) : (PyData.list ds).shown.length ≤ ds.length * (m + 2) + 2 := by
  have h1 := piled_shown h
  have h2 := textFrom_le (PyData.shownAll ds) 0 "["
  rw [PyData.shown]
  unfold listText
  rw [strLen_append]
  have e1 : ("[" : Str).length = 1 := rfl
  have e2 : ("]" : Str).length = 1 := rfl
  omega
theorem shown_tuple {ds : List PyData} {m : Nat} (h : ∀ d ∈ ds, d.shown.length ≤ m) : (PyData.tuple ds).shown.length ≤ ds.length * (m + 2) + 3 := by
  have h1 := piled_shown h
  rw [PyData.shown]
  unfold tupleText
  rw [strLen_append, strLen_append]
  have e1 : ("(" : Str).length = 1 := rfl
  have e3 : (Str.join ", " (PyData.shownAll ds)).length ≤ piled (PyData.shownAll ds) := by
    by_cases e : PyData.shownAll ds = []
    · rw [e]
      decide
    · have := join_length_add _ e
      omega
  have e2 : ((if (PyData.shownAll ds).length == 1 then ",)" else ")" : String) : Str).length ≤ 2 := by
    split <;> decide
  omega
/-! ### entries as data -/
theorem dpAll_strs {K : PySem.W.Frag} {H : Hp} : ∀ ns : List Str, DpAll K H (ns.map V.str) (ns.map PyData.str)
  | [] => .nil
  | n :: ns => .cons (.str n) (dpAll_strs ns)
theorem dp_strs {K : PySem.W.Frag} {H : Hp} {r : Addr} {ns : List Str} (h : H r = some (.lst (ns.map V.str))) : Dp K H (.ref r) (.list (ns.map PyData.str)) := .lst (SqL.of h) (dpAll_strs ns)
def entD (e : Ent) : PyData := .tuple [.str e.name, .int e.w, .list (e.parts.map PyData.str)]
def catD (es : List Ent) : PyData := .list (es.map entD)
theorem dp_ent {K : PySem.W.Frag} {H : Hp} {v : V} {e : Ent} (h : EntAt H v e) : Dp K H v (entD e) := by
  obtain ⟨t, l, rfl, h1, h2⟩ := h
  exact .tup (SqT.of h1) (.cons (.str _) (.cons (.int _) (.cons (dp_strs h2) .nil)))
theorem dpAll_cat {K : PySem.W.Frag} {H : Hp} : ∀ {vs : List V} {es : List Ent}, CatAt H vs es → DpAll K H vs (es.map entD)
  | _, _, .nil => .nil
  | _, _, .cons h t => .cons (dp_ent h) (dpAll_cat t)
theorem dp_cat {K : PySem.W.Frag} {H : Hp} {r : Addr} {vs : List V} {es : List Ent} (h : SqL K H r vs) (c : CatAt H vs es) : Dp K H (.ref r) (catD es) := .lst h (dpAll_cat c)
/-- texts and numbers that are short -/
def ShwS (x : Str) : Prop := x.length ≤ 9 ∧ ∀ c ∈ x.cps.toList, c < 16 ^ 8
structure ShwE (e : Ent) : Prop where
  name : ShwS e.name
  w : e.w.natAbs < 10 ^ 100
  few : e.parts.length ≤ 20
  parts : ∀ p ∈ e.parts, ShwS p
theorem shown_str {x : Str} (h : ShwS x) : (PyData.str x).shown.length ≤ 92 := by
  have := StrLaws.reprText_len x h.2
  rw [PyData.shown]
  have := h.1
  omega
theorem shown_int {i : Int} (h : i.natAbs < 10 ^ 100) : (PyData.int i).shown.length ≤ 101 := by
  have e := int_text_length_le10 (k := 100) (by decide) h
  rw [PyData.shown]
  show (Str.ofString (toString i)).length ≤ _
  rw [PySem.ofString_length]
  exact e
theorem show_int {i : Int} (h : i.natAbs < 10 ^ 100) : (PyData.int i).showable = true := by
  rw [PyData.showable, decide_eq_true_eq]
  by_cases h0 : i.natAbs = 0
  · rw [h0]
    decide
  · refine (Nat.log2_lt h0).mpr (Nat.lt_of_lt_of_le h ?_)
    decide +kernel
theorem showAll {ds : List PyData} (h : ∀ d ∈ ds, d.showable = true) : PyData.showableAll ds = true := by
  induction ds with
  | nil => rfl
  | cons d ds ih => rw [PyData.showableAll, h d (List.mem_cons_self ..), ih fun x hx => h x (List.mem_cons_of_mem _ hx)]; rfl
theorem show_strs {ns : List Str} (h : ∀ p ∈ ns, ShwS p) : (PyData.list (ns.map PyData.str)).showable = true ∧ (PyData.list (ns.map PyData.str)).shown.length ≤ ns.length * 94 + 2 := by
  refine ⟨?_, ?_⟩
  · rw [PyData.showable]
    exact showAll fun d hd => by
      obtain ⟨p, hp, rfl⟩ := List.mem_map.mp hd
      rfl
  · have := shown_list (ds := ns.map PyData.str) (m := 92) fun d hd => by
      obtain ⟨p, hp, rfl⟩ := List.mem_map.mp hd
      exact shown_str (h p hp)
    rwa [List.length_map] at this
theorem show_ent {e : Ent} (h : ShwE e) : (entD e).showable = true ∧ (entD e).shown.length ≤ 6000 := by
  obtain ⟨h1, h2⟩ := show_strs h.parts
  have h3 := h.few
  refine ⟨?_, ?_⟩
  · unfold entD
    rw [PyData.showable]
    refine showAll fun d hd => ?_
    rcases List.mem_cons.mp hd with rfl | hd
    · rfl
    rcases List.mem_cons.mp hd with rfl | hd
    · exact show_int h.w
    rw [List.mem_singleton.mp hd]
    exact h1
  · unfold entD
    refine Nat.le_trans (shown_tuple (m := 1890) fun d hd => ?_) (by show 3 * (1890 + 2) + 3 ≤ 6000; decide)
    rcases List.mem_cons.mp hd with rfl | hd
    · exact Nat.le_trans (shown_str h.name) (by decide)
    rcases List.mem_cons.mp hd with rfl | hd
    · exact Nat.le_trans (shown_int h.w) (by decide)
    rw [List.mem_singleton.mp hd]
    omega
theorem show_cat {es : List Ent} (h : ∀ e ∈ es, ShwE e) (hz : es.length ≤ 1000) : (catD es).showable = true ∧ (catD es).shown.length ≤ sizeLine := by
  refine ⟨?_, ?_⟩
  · unfold catD
    rw [PyData.showable]
    exact showAll fun d hd => by
      obtain ⟨e, he, rfl⟩ := List.mem_map.mp hd
      exact (show_ent (h e he)).1
  · unfold catD
    have := shown_list (ds := es.map entD) (m := 6000) fun d hd => by
      obtain ⟨e, he, rfl⟩ := List.mem_map.mp hd
      exact (show_ent (h e he)).2
    rw [List.length_map] at this
    rw [sizeLine_eq]
    have h2 : es.length * 6002 ≤ 1000 * 6002 := Nat.mul_le_mul_right _ hz
    omega
theorem depth_cat (es : List Ent) : (catD es).depth ≤ 3 := by
  unfold catD
  rw [PyData.depth]
  have : PyData.depthAll (es.map entD) ≤ 2 := depth_le fun d hd => by
    obtain ⟨e, he, rfl⟩ := List.mem_map.mp hd
    unfold entD
    rw [PyData.depth]
    have : PyData.depthAll [.str e.name, .int e.w, .list (e.parts.map PyData.str)] ≤ 1 := depth_le fun d hd => by
      rcases List.mem_cons.mp hd with rfl | hd
      · rw [PyData.depth]; omega
      rcases List.mem_cons.mp hd with rfl | hd
      · rw [PyData.depth]; omega
      rw [List.mem_singleton.mp hd, PyData.depth]
      have : PyData.depthAll (e.parts.map PyData.str) ≤ 0 := depth_le fun d hd => by
        obtain ⟨p, hp, rfl⟩ := List.mem_map.mp hd
        rw [PyData.depth]
        exact Nat.le_refl _
      omega
    omega
  omega
theorem depth_strs (ns : List Str) : (PyData.list (ns.map PyData.str)).depth ≤ 1 := by
  rw [PyData.depth]
  have : PyData.depthAll (ns.map PyData.str) ≤ 0 := depth_le fun d hd => by
    obtain ⟨p, hp, rfl⟩ := List.mem_map.mp hd
    rw [PyData.depth]
    exact Nat.le_refl _
  omega
theorem cnt_strs (ns : List Str) : cnt (PyData.list (ns.map PyData.str)) ≤ ns.length + 1 := by
  rw [cnt]
  have := cnt_le (ds := ns.map PyData.str) (m := 1) fun d hd => by
    obtain ⟨p, hp, rfl⟩ := List.mem_map.mp hd
    rw [cnt]
    exact Nat.le_refl _
  rw [List.length_map] at this
  omega
end Sk
/-! repr of a list of lists and of dicts of numbers -/
namespace Sk
open PySem PySem.Spec PyProof.Rows L2
def numD (n : Num) : PyData := .dict (n.map fun q => (.str q.1, .int q.2))
/-- nested data, or a dict of numbers -/
def DpM (K : PySem.W.Frag) (H : Hp) (v : V) (d : PyData) : Prop := Dp K H v d ∨ ∃ b n, v = .ref b ∧ H b = some (.dK (dS n)) ∧ d = numD n
section
variable {prog : Program} {w : World}
theorem reads_pairs {h : Heap} : ∀ (n : Num) (es : List DictEntry) (kvs : List (Key × Value)), Pairs (mixKind prog w) es kvs → KV (dS n) kvs → ReadsAll h (es.map (·.key)) (n.map fun q => PyData.str q.1) [] ∧ ReadsAll h (es.map (·.val)) (n.map fun q => PyData.int q.2) []
  | [], es, kvs, p, r => by
    cases r
    cases p
    exact ⟨.nil, .nil⟩
  | q :: n, es, kvs, p, r => by
    cases r with
    | cons r1 r2 =>
      cases p with
      | cons hk hv p =>
        obtain ⟨h1, h2⟩ := reads_pairs n _ _ p r2
        obtain ⟨e1, e2⟩ := r1
        rcases keyIs_shape hk with ⟨i, t, a1, a2⟩ | ⟨x, t, a1, a2⟩
        · rw [← e1] at a1
          cases a1
        · rw [← e1] at a1
          cases a1
          obtain ⟨t2, a3⟩ := e2
          refine ⟨?_, ?_⟩
          · rw [List.map_cons, List.map_cons, a2]
            exact ReadsAll.cons (as := []) (.str _ _) h1
          · rw [List.map_cons, List.map_cons, hv, a3]
            exact ReadsAll.cons (as := []) (.int _ _) h2
end
section
variable {X : Cx} {pins : List (Addr × Obj)} {σ : L2.St} {H : Hp} {s : Shared}
theorem DpM.reads (I : Inv X pins σ H s) {v : V} {u : Value} {d : PyData} (h : DpM X.K H v d) (r : RelV v u) : ∃ as, Reads s.heap u d as ∧ (d.hasDict = true → sysModules ∉ as) := by
  rcases h with h | ⟨b, n, rfl, hb, rfl⟩
  · obtain ⟨as, h1⟩ := Dp.reads I d v u h r
    exact ⟨as, h1, fun z => by rw [Dp.noDict h] at z; cases z⟩
  · obtain rfl : u = Value.ref b := r
    obtain ⟨_, hsys, vs, rel, dof⟩ := dk_of I.hok hb
    obtain ⟨o, es, ep, ho, ex, hd, _, hp, _⟩ := dof
    obtain ⟨h1, h2⟩ := reads_pairs (h := s.heap) n _ _ hp rel
    have k1 : ReadsAll s.heap (es.toList.map (·.key)) ((n.map fun q : Str × Int => (PyData.str q.1, PyData.int q.2)).map (·.1)) [] := by
      rw [List.map_map]
      exact h1
    have k2 : ReadsAll s.heap (es.toList.map (·.val)) ((n.map fun q : Str × Int => (PyData.str q.1, PyData.int q.2)).map (·.2)) [] := by
      rw [List.map_map]
      exact h2
    refine ⟨_, Reads.dict ho ex.1 hd k1 k2, fun _ => ?_⟩
    · intro hm
      have e : sysModules = b := List.mem_singleton.mp (by simpa using hm)
      rw [e] at hsys
      simp at hsys
end
/-- data of a list, item by item -/
def rReprM (K : PySem.W.Frag) : List V → Hp → VK → Prop := fun xs H Q => ∃ (a : Addr) (us : List V) (ds : List PyData), xs = [.ref a] ∧ SqL K H a us ∧ Paired (DpM K H) us ds ∧ us ≠ [] ∧ (∀ d ∈ ds, d.showable = true ∧ d.shown.length ≤ sizeLine ∧ d.depth ≤ 50) ∧ (PyData.list ds).shown.length ≤ sizeLine ∧ Q (.str (PyData.list ds).shown) H
theorem crReprM {X : Cx} {K : PySem.W.Frag} (e : X.K = K) (hg : X.A.guards = some []) (hu : X.A.units + 64 < cLine) : CallR X (.builtin "repr") (rReprM K) := by
  subst e
  intro pins s σ H xs us Q I r h
  obtain ⟨a, vs, ds, rfl, hs, hp, hne, hsh, hz, q⟩ := h
  obtain ⟨u, rfl, ru⟩ := vals1 r
  obtain rfl : u = Value.ref a := ru
  obtain ⟨its, rv, ⟨o, n, ho, hc, hdn, hd⟩, hlen⟩ := I.list hs
  -- the items
  have items : ∀ {vs : List V} {ds : List PyData} {its : List Value}, Paired (DpM X.K H) vs ds → Vals vs its → (∀ d ∈ ds, d.showable = true ∧ d.shown.length ≤ sizeLine ∧ d.depth ≤ 50) →
      (∃ as, ReadsAll s.heap its ds as) ∧ ∃ bs, ReadAtMost s.heap (PyData.depthAll ds) bs ∧ ReprAllK X.prog X.w bs s.heap (PyData.depthAll ds) its (PyData.shownAll ds) := by
    intro vs ds its hp
    induction hp generalizing its with
    | nil =>
      intro rv _
      cases rv
      exact ⟨⟨_, .nil⟩, [], (fun _ h => nomatch h), by rw [PyData.shownAll]; exact .nil⟩
    | cons hd _ ih =>
      intro rv hsh
      cases rv with
      | cons r1 r2 =>
        obtain ⟨⟨as2, k2⟩, b2, hb2, k3⟩ := ih r2 fun d hd => hsh d (List.mem_cons_of_mem _ hd)
        obtain ⟨as, k1, hsm⟩ := DpM.reads I hd r1
        obtain ⟨s1, s2, s3⟩ := hsh _ (List.mem_cons_self ..)
        obtain ⟨b1, hb1, k4⟩ := ReprK.of_reads (prog := X.prog) (w := X.w) k1 s1 hsm s2
        refine ⟨⟨_, .cons k1 k2⟩, b1 ++ b2, ?_, ?_⟩
        · rw [PyData.depthAll]
          exact (hb1.mono (Nat.le_max_left _ _)).append (hb2.mono (Nat.le_max_right _ _))
        · rw [PyData.depthAll, PyData.shownAll]
          exact .cons ((k4.more fun b hb => List.mem_append_left _ hb).level_le (Nat.le_max_left _ _)) (k3.more_le (fun b hb => List.mem_append_right _ hb) (Nat.le_max_right _ _))
  obtain ⟨⟨as, ra⟩, bs, hbs, hk⟩ := items hp rv hsh
  have whole : Reads s.heap (.ref a) (.list ds) (a :: as) := .list ho hc hd ra
  have hna : a ∉ bs := not_mem_of_deeper whole (by rw [PyData.depth]; omega) hbs
  have hdp : PyData.depthAll ds ≤ 50 := depth_le fun d hd => (hsh d hd).2.2
  cases its with
  | nil =>
    cases rv
    exact absurd rfl hne
  | cons x l =>
    have hz' : (listText (PyData.shownAll ds)).length ≤ sizeLine := by
      rw [PyData.shown] at hz
      exact hz
    refine call_repr_slot (by omega) ⟨o, ho, hc⟩ F.slot_list_repr.toG (call_list_reprK (A := X.A.in1) ho hc hd hna (by simpa using hk.length_eq) (fun i y e => hk.item i y (by simpa using e)) hg (fun b _ => Clear.nil b) (by show X.A.units + 1 + _ < cLine; omega) (fun _ _ e => e) (fun h' u tk k => ⟨_, _, rfl, ?_⟩) hz')
    have e1 : listText (PyData.shownAll ds) = (PyData.list ds).shown := by rw [PyData.shown]
    rw [e1]
    exact ⟨.str _, H, I.kept k, ⟨u, rfl⟩, q⟩
/-! ### how long -/
theorem piled_kv {m : Nat} : ∀ {n : Num}, (∀ q ∈ n, ShwS q.1 ∧ q.2.natAbs < 10 ^ 100) → piled (PyData.shownKv (n.map fun q => (PyData.str q.1, PyData.int q.2))) ≤ n.length * 230
  | [], _ => by
    rw [List.map_nil, PyData.shownKv]
    exact Nat.zero_le _
  | q :: n, h => by
    rw [List.map_cons, PyData.shownKv, piled_cons, List.length_cons, Nat.add_mul]
    have h1 := shown_str (h q (List.mem_cons_self ..)).1
    have h2 := shown_int (h q (List.mem_cons_self ..)).2
    have h3 := piled_kv (m := m) fun z hz => h z (List.mem_cons_of_mem _ hz)
    have e : ((PyData.str q.1).shown ++ ": " ++ (PyData.int q.2).shown).length = (PyData.str q.1).shown.length + 2 + (PyData.int q.2).shown.length := by
      rw [strLen_append, strLen_append]
      rfl
    rw [e]
    omega
theorem show_num {n : Num} (h : ∀ q ∈ n, ShwS q.1 ∧ q.2.natAbs < 10 ^ 100) : (numD n).showable = true ∧ (numD n).shown.length ≤ n.length * 230 + 4 ∧ (numD n).depth ≤ 1 := by
  refine ⟨?_, ?_, ?_⟩
  · unfold numD
    rw [PyData.showable]
    induction n with
    | nil => rfl
    | cons q n ih =>
      rw [List.map_cons, PyData.showableKv, ih fun z hz => h z (List.mem_cons_of_mem _ hz), show_int (h q (List.mem_cons_self ..)).2]
      rfl
  · unfold numD
    have h1 := piled_kv (m := 0) h
    rw [PyData.shown]
    unfold dictText
    rw [strLen_append, strLen_append]
    have e1 : ("{" : Str).length = 1 := rfl
    have e2 : ("}" : Str).length = 1 := rfl
    have e3 : (Str.join ", " (PyData.shownKv (n.map fun q => (PyData.str q.1, PyData.int q.2)))).length ≤ piled (PyData.shownKv (n.map fun q => (PyData.str q.1, PyData.int q.2))) := by
      by_cases e : PyData.shownKv (n.map fun q => (PyData.str q.1, PyData.int q.2)) = []
      · rw [e]
        decide
      · have := join_length_add _ e
        omega
    omega
  · unfold numD
    rw [PyData.depth]
    have : PyData.depthKv (n.map fun q => (PyData.str q.1, PyData.int q.2)) = 0 := by
      clear h
      induction n with
      | nil => rfl
      | cons q n ih =>
        rw [List.map_cons, PyData.depthKv, ih, PyData.depth, PyData.depth]
        rfl
    omega
theorem show_cat_len {es : List Ent} (h : ∀ e ∈ es, ShwE e) : (catD es).shown.length ≤ es.length * 6002 + 2 := by
  unfold catD
  have := shown_list (ds := es.map entD) (m := 6000) fun d hd => by
    obtain ⟨e, he, rfl⟩ := List.mem_map.mp hd
    exact (show_ent (h e he)).2
  rwa [List.length_map] at this
end Sk
/-! l.count(x), a list of texts -/
namespace Sk
open PySem PySem.Spec PyProof.Rows L2
def eqTx (k : Str) (v : Value) : Bool := match v with
  | .str n _ => decide (n = k)
  | _ => false
def rCntS (K : PySem.W.Frag) : V → List V → Hp → VK → Prop := fun x xs H Q => ∃ (p : Addr) (ns : List Str) (k : Str), x = .ref p ∧ xs = [.str k] ∧ SqL K H p (ns.map V.str) ∧ Q (.int (amt (ones ns) k)) H
theorem cnt_texts {k : Str} : ∀ {ns : List Str} {us : List Value}, Vals (ns.map V.str) us → ((us.countP (eqTx k) : Nat) : Int) = amt (ones ns) k
  | [], _, .nil => rfl
  | n :: ns, _, .cons ⟨t, e⟩ r => by
    have ih := cnt_texts (k := k) r
    unfold ones at ih ⊢
    rw [List.countP_cons, List.map_cons, amt_cons, ← ih, e]
    show _ = (if n = k then (1 : Int) else 0) + _
    by_cases c : n = k
    · rw [if_pos c, if_pos (show eqTx k (.str n t) = true from decide_eq_true c)]
      omega
    · rw [if_neg c, if_neg (show ¬ eqTx k (.str n t) = true from fun z => c (of_decide_eq_true z))]
      omega
theorem txt_gives {k : Str} {t : Tok} : ∀ {ns : List Str} {us : List Value}, Vals (ns.map V.str) us → ∀ y ∈ us, MeetsSeq.EqGives y (.str k t) (eqTx k y)
  | [], _, .nil, y, hy => by cases hy
  | n :: ns, _, .cons ⟨t', e⟩ r, y, hy => by
    rcases List.mem_cons.mp hy with z | z
    · rw [z, e]
      have h := SeqRoads2.EqGives.str n k t' t
      have e2 : eqTx k (.str n t') = (n.cps.toList == k.cps.toList) := by
        show decide (n = k) = _
        rw [Bool.eq_iff_iff, decide_eq_true_eq, beq_iff_eq]
        exact ⟨fun z => by rw [z], fun z => str_ext z⟩
      rw [e2]
      exact h
    · exact txt_gives r y z
theorem mt_cntS {X : Cx} {K : PySem.W.Frag} (eK : X.K = K) : MtR X "list.count" (rCntS K) := by
  subst eK
  intro pins s σ H x xs v us Q I rx rxs h
  obtain ⟨p, ns, k, rfl, rfl, hs, q⟩ := h
  cases rx
  obtain ⟨u, rfl, ru⟩ := rxs.one
  obtain ⟨t, rfl⟩ := ru
  obtain ⟨its, rv, ⟨⟨cls, dd, data, sl⟩, n, ho, hc, hdn, hd⟩, _⟩ := I.list hs
  simp only at hc hd
  subst hc hd
  have ec := cnt_texts (k := k) rv
  refine call_meets PySem.F.slot_list_count ⟨_, ho, rfl⟩ PySem.F.entry_list_count (PySem.F.args_list_count_2 _ _) (SeqAt.list_countAt p its.toArray n dd sl (.str k t) (eqTx k))
    ⟨ho, fun y hy => (txt_gives rv y (by simpa using hy)).at _ _, .int (amt (ones ns) k), H, I.tok _, ⟨s.toks, ?_⟩, q⟩
  rw [← ec]
/-- l.remove(x), a list of texts -/
def rRemS : V → List V → Hp → VK → Prop := fun x xs H Q => ∃ (l : Addr) (ns : List Str) (k : Str), x = .ref l ∧ xs = [.str k] ∧ H l = some (.lst (ns.map V.str)) ∧ k ∈ ns ∧ Q .non (upd H l (.lst ((ns.erase k).map V.str)))
theorem erase_mapS : ∀ (l : List Str) (j : Nat), (l.map V.str).eraseIdx j = (l.eraseIdx j).map V.str
  | [], j => by simp
  | a :: r, 0 => by simp
  | a :: r, j + 1 => by
    have ih := erase_mapS r j
    simp [ih]
theorem erase_ix {k : Str} : ∀ {ns : List Str}, k ∈ ns → ∃ j, ns[j]? = some k ∧ (∀ m : Nat, m < j → ns[m]? ≠ some k) ∧ ns.eraseIdx j = ns.erase k
  | n :: ns, h => by
    by_cases c : n = k
    · subst c
      exact ⟨0, rfl, fun m hm => by omega, by simp⟩
    · obtain ⟨j, h1, h2, h3⟩ := erase_ix ((List.mem_cons.mp h).resolve_left fun z => c z.symm)
      refine ⟨j + 1, by simpa using h1, fun m hm => ?_, ?_⟩
      · cases m with
        | zero => simpa using c
        | succ m => simpa using h2 m (by omega)
      · rw [List.eraseIdx_cons_succ, h3, List.erase_cons, if_neg]
        simpa using c
theorem vals_at {ns : List Str} {us : List Value} (r : Vals (ns.map V.str) us) {j : Nat} {n : Str} (h : ns[j]? = some n) : ∃ t, us[j]? = some (.str n t) := by
  induction ns generalizing us j with
  | nil => simp at h
  | cons a ns ih =>
    cases r with
    | cons r1 r2 =>
      obtain ⟨t, rfl⟩ := r1
      cases j with
      | zero =>
        simp at h
        subst h
        exact ⟨t, rfl⟩
      | succ j => simpa using ih r2 (by simpa using h)
theorem mt_removeS {X : Cx} : MtM X "list.remove" rRemS := by
  intro pins s σ H x xs v us Q I rx rxs h
  obtain ⟨l, ns, k, rfl, rfl, hH, hm, q⟩ := h
  obtain ⟨j, hj, hno, he⟩ := erase_ix hm
  cases rx
  obtain ⟨u, rfl, ru⟩ := rxs.one
  obtain ⟨t, rfl⟩ := ru
  obtain ⟨z, its, n, r, hl, e⟩ := I.lstM hH
  rw [List.length_map] at hl z
  have hjn : j < ns.length := (List.getElem?_eq_some_iff.mp hj).1
  have hjl : j < its.toArray.size := by rw [List.size_toArray]; omega
  refine call_meets PySem.F.slot_list_remove ⟨_, e, rfl⟩ PySem.F.entry_list_remove (PySem.F.args_list_remove_2 _ _)
    (MeetsSeq.list_remove l its.toArray n (.str k t) (eqTx k) (fun y hy => txt_gives r y (by simpa using hy)) j hjl ?_ ?_ (by rw [List.size_toArray]; omega)) ⟨e, ?_⟩
  · obtain ⟨tj, hjt⟩ := vals_at r hj
    obtain ⟨h1, h2⟩ := List.getElem?_eq_some_iff.mp hjt
    have e1 : its.toArray[j] = .str k tj := by simpa using h2
    rw [e1]
    exact decide_eq_true rfl
  · intro m hm hmj
    have hmn : m < ns.length := by omega
    obtain ⟨tm, hmt⟩ := vals_at r (List.getElem?_eq_getElem hmn)
    obtain ⟨h1, h2⟩ := List.getElem?_eq_some_iff.mp hmt
    have e1 : its.toArray[m] = .str ns[m] tm := by simpa using h2
    rw [e1]
    refine decide_eq_false fun e2 => hno m hmj ?_
    rw [List.getElem?_eq_getElem hmn, e2]
  · have rr := r.eraseIdx j
    rw [erase_mapS, he] at rr
    refine ⟨.non, _, I.lset (its' := its.eraseIdx j) (t' := s.toks) hH e ?_ rr ?_, rfl, q⟩
    · show its.toArray.eraseIdxIfInBounds j = (its.eraseIdx j).toArray
      rw [List.eraseIdxIfInBounds_toArray]
    · have z2 : (ns.erase k).length ≤ ns.length := List.length_erase_le
      rw [List.length_map]
      omega
end Sk
/-! sorted(set(xs)), xs a list of texts -/
namespace Sk
open PySem PySem.Spec PyProof.Rows L2
def keyT (e : Int × Value) : Str := match e.2 with | .str x _ => x | _ => Str.empty
def GoodT (w : World) (e : Int × Value) : Prop := ∃ x tk, e.2 = Value.str x tk ∧ e.1 = hashStr w x
/-- the set of texts at a: S its members, n their number -/
def SetT (w : World) (h : Heap) (a : Addr) (S : Str → Bool) (n : Nat) : Prop :=
  ∃ o es ep t, h.get? a = some o ∧ o.ExactSet ∧ o.data = .set es ep t ∧ (∀ e ∈ es.toList, GoodT w e) ∧ (es.toList.map keyT).Nodup ∧ (∀ k, S k = true ↔ k ∈ es.toList.map keyT) ∧
    es.size < scanBound ∧ t.fits es.size = true ∧ es.size = n ∧ Ris t.place.toList ∧ (w.params.followText "set-order" = true ∨ t.led = true)
section
variable {P : Program} {w : World} {h h' : Heap} {a : Addr} {S : Str → Bool} {n : Nat}
theorem SetT.at (R : SetT w h a S n) (k : ∀ o, h.get? a = some o → h'.get? a = some o) : SetT w h' a S n := let ⟨o, es, ep, t, ho, r⟩ := R; ⟨o, es, ep, t, k o ho, r⟩
theorem SetT.congr {S' : Str → Bool} (R : SetT w h a S n) (e : ∀ k, S' k = S k) : SetT w h a S' n := (funext e : S' = S) ▸ R
theorem goodT_elems {l : List (Int × Value)} (g : ∀ e ∈ l, GoodT w e) : ElemsOf (PySem.strKind P w) l := fun e he => by
  obtain ⟨x, tk, h1, h2⟩ := g e he
  exact ⟨⟨x, by rw [h1]; exact strKind_is P w x tk, h2⟩, by rw [h1] <;> rfl⟩
theorem goodT_is {e : Int × Value} (g : GoodT w e) (k : Str) : (PySem.strKind P w).is k e.2 = true ↔ keyT e = k := by
  obtain ⟨x, tk, h1, _⟩ := g
  unfold keyT
  rw [h1]
  constructor
  · intro z
    exact (PySem.strKind P w).inj _ _ _ (strKind_is P w x tk) z
  · rintro rfl
    exact strKind_is P w x tk
theorem goodT_mem {l : List (Int × Value)} (g : ∀ e ∈ l, GoodT w e) (k : Str) : k ∈ l.map keyT ↔ ∃ e ∈ l, (PySem.strKind P w).is k e.2 = true := by
  rw [List.mem_map]
  exact ⟨fun ⟨e, he, q⟩ => ⟨e, he, (goodT_is (g e he) k).2 q⟩, fun ⟨e, he, q⟩ => ⟨e, he, (goodT_is (g e he) k).1 q⟩⟩
end
section
variable {P : Program} {w : World} {A : Around} {E : Value → Shared → Prop} {s : Shared} {a : Addr} {S : Str → Bool} {n : Nat}
theorem setT_tail {g : Bool → Sem Unit} (hg : ∀ (b : Bool) (s₁ : Shared) (Q' : Unit → Shared → Prop), Q' () s₁ → wpAny (model P w) A (g b) Q' E s₁) {o : Obj} {es : Array (Int × Value)} {ep : Nat} {t : SetTable} (ho : s.heap.get? a = some o) (hex : o.ExactSet) (hd : o.data = .set es ep t)
    {zs : Array (Int × Value)} {t2 : SetTable} {S' : Str → Bool} (g1 : ∀ e ∈ zs.toList, GoodT w e) (nd1 : (zs.toList.map keyT).Nodup) (m1 : ∀ k, S' k = true ↔ k ∈ zs.toList.map keyT)
    (hb1 : zs.size < scanBound) (hf2 : t2.fits zs.size = true) (hr : Ris t2.place.toList) (hl : w.params.followText "set-order" = true ∨ t2.led = true) {dum : Bool} {R : Option Bool → Shared → Prop}
    (hR : ∀ h', Heap.SameBut a s.heap h' → SetT w h' a S' zs.size → R (some true) { s with heap := h' }) :
    wpAny (model P w) A (do
        storeSet a zs t2
        if (!dum && t2.tooFull) = true then do
            g (relayAll t2 zs (SetTable.grown zs.size)).2.2
            storeSet a (relayAll t2 zs (SetTable.grown zs.size)).1 (relayAll t2 zs (SetTable.grown zs.size)).2.1
            pure (some true)
          else pure (some true)) R E s := by
  have ho1 := store_at (es' := zs) (t' := t2) ho hd
  have sb1 := Heap.SameBut.update s.heap a (Obj.putSet zs t2)
  refine wpAny_bind (wpAny_storeSet_of ho hd ?_ (fits_of_scanBound hb1))
  by_cases c : (!dum && t2.tooFull) = true
  · rw [if_pos c]
    have pm := relayAll_perm t2 zs (SetTable.grown zs.size)
    have hf3 := relayAll_fits t2 zs (SetTable.grown zs.size)
    have hr3 := relayAll_ris t2 zs (SetTable.grown zs.size)
    have hl3 := relayAll_led t2 zs (SetTable.grown zs.size)
    generalize relayAll t2 zs (SetTable.grown zs.size) = Z at pm hf3 hr3 hl3 ⊢
    obtain ⟨ys, t3, gave⟩ := Z
    dsimp only at pm hf3 hr3 hl3 ⊢
    have hsz : ys.size = zs.size := by rw [← Array.length_toList, pm.length_eq, Array.length_toList]
    have ho2 := store_at (es' := ys) (t' := t3) ho1 rfl
    refine wpAny_bind (hg _ _ _ (wpAny_bind (wpAny_storeSet_of ho1 rfl (wpAny_pure (hR _ (sb1.trans (Heap.SameBut.update _ a _)) ?_)) (fits_of_scanBound (by rw [hsz]; exact hb1)))))
    exact ⟨_, ys, _, t3, ho2, hex, rfl, fun e he => g1 e (pm.mem_iff.mp he), (pm.map keyT).nodup_iff.mpr nd1, fun k => (m1 k).trans (pm.map keyT).mem_iff.symm, by rw [hsz]; exact hb1, hf3, hsz, hr3, hl.imp id fun z => by rw [hl3]; exact z⟩
  · rw [if_neg c]
    exact wpAny_pure (hR _ sb1 ⟨_, zs, _, t2, ho1, hex, rfl, g1, nd1, m1, hb1, hf2, rfl, hr, hl⟩)
theorem setT_add {k : Str} {tk : Tok} {Q : Bool → Shared → Prop} (R : SetT w s.heap a S n) (room : n + 1 < scanBound)
    (hQ : ∀ h', Heap.SameBut a s.heap h' → SetT w h' a (fun j => S j || decide (j = k)) (if S k = true then n else n + 1) → Q (!S k) { s with heap := h' }) :
    wpAny (model P w) A (setAddHashed a (.str k tk) ((PySem.strKind P w).hash k)) Q E s := by
  obtain ⟨o, es, ep, t, ho, hex, hd, g, nd, hm, hb, hf, hn, hr, hl⟩ := R
  have hkey : (PySem.strKind P w).is k (.str k tk) = true := strKind_is P w k tk
  have hsc : (Value.str k tk).scannable = true := rfl
  have hel : ElemsOf (PySem.strKind P w) es.toList := goodT_elems g
  have hgw : ∀ (b : Bool) {s₁ : Shared} {Q' : Unit → Shared → Prop}, Q' () s₁ → wpAny (model P w) A (match b with | true => rule "set.scan.the-table-gave-way" | false => pure ()) Q' E s₁ := fun b s₁ Q' q => by
    cases b
    · first | exact wpAny_pure q | exact wpAny_rule q
    · first | exact wpAny_pure q | exact wpAny_rule q
  unfold setAddHashed setAddHashedIn
  refine wpAny_holding (wpAny_bind (wpAny_setState_of ho hd hf ?_))
  dsimp only
  rw [byScan_of hsc hb hel]
  simp only [↓reduceIte]
  unfold setAddByScan
  refine wpAny_bind (wpAny_bind (wpAny_rule (wpAny_bind (wpAny_setScan_of hkey ho hd hf hel ?_))))
  cases hfi : List.findIdx? (fun e => (PySem.strKind P w).is k e.2) es.toList with
  | some j =>
    dsimp only
    obtain ⟨hj, pj, _⟩ := List.findIdx?_eq_some_iff_getElem.mp hfi
    have hSk : S k = true := (hm k).2 ((goodT_mem (P := P) (w := w) g k).2 ⟨es.toList[j], List.getElem_mem hj, pj⟩)
    have q := hQ s.heap (Heap.SameBut.refl a s.heap) ⟨o, es, ep, t, ho, hex, hd, g, nd, fun i => by
      rw [Bool.or_eq_true, decide_eq_true_eq, ← hm i]
      exact ⟨fun z => z.elim id (fun e => e ▸ hSk), .inl⟩, hb, hf, by rw [if_pos hSk]; exact hn, hr, hl⟩
    rw [hSk] at q
    exact wpAny_pure (wpAny_pure q)
  | none =>
    dsimp only
    have hnk : k ∉ es.toList.map keyT := fun z => by
      obtain ⟨e, he, q⟩ := (goodT_mem (P := P) (w := w) g k).1 z
      have c := List.findIdx?_eq_none_iff.mp hfi e he
      rw [q] at c
      cases c
    have hSk : S k = false := by
      cases q : S k with
      | false => rfl
      | true => exact absurd ((hm k).1 q) hnk
    have pm := layNew_perm t es ((PySem.strKind P w).hash k) (.str k tk)
    have hf1 := layNew_fits t es ((PySem.strKind P w).hash k) (.str k tk)
    have hr1 := layNew_ris t es ((PySem.strKind P w).hash k) (.str k tk) hr
    have hl1 := layNew_led t es ((PySem.strKind P w).hash k) (.str k tk)
    generalize layNew t es ((PySem.strKind P w).hash k) (.str k tk) = Z at pm hf1 hr1 hl1 ⊢
    obtain ⟨zs, t1, dum, gave⟩ := Z
    dsimp only at pm hf1 hr1 hl1 ⊢
    rw [Array.toList_push] at pm
    have pc : zs.toList.Perm (((PySem.strKind P w).hash k, Value.str k tk) :: es.toList) := pm.trans (List.perm_append_singleton _ _)
    have pk : (zs.toList.map keyT).Perm (k :: es.toList.map keyT) := pc.map keyT
    have g1 : ∀ e ∈ zs.toList, GoodT w e := fun e he => by
      rcases List.mem_cons.mp (pc.mem_iff.mp he) with rfl | z
      · exact ⟨k, tk, rfl, rfl⟩
      · exact g e z
    have nd1 : (zs.toList.map keyT).Nodup := pk.nodup_iff.mpr (List.nodup_cons.mpr ⟨hnk, nd⟩)
    have m1 : ∀ i, (S i || decide (i = k)) = true ↔ i ∈ zs.toList.map keyT := fun i => by
      rw [Bool.or_eq_true, decide_eq_true_eq, hm i, pk.mem_iff, List.mem_cons]
      exact Or.comm
    have hsz : zs.size = n + 1 := by rw [← Array.length_toList, pc.length_eq, List.length_cons, Array.length_toList, hn]
    have hb1 : zs.size < scanBound := by rw [hsz]; exact room
    have hled : w.params.followText "set-order" = true ∨ t1.led = true := hl.imp id fun z => by rw [hl1]; exact z
    have fin : ∀ h', Heap.SameBut a s.heap h' → SetT w h' a (fun j => S j || decide (j = k)) zs.size → Q true { s with heap := h' } := fun h' sb r => by
      have q := hQ h' sb
      rw [hSk] at q
      rw [hsz] at r
      exact q r
    refine wpAny_bind (hgw _ ?_)
    split
    · refine wpAny_bind ?_
      rw [hashByValue_scannable 8 hsc]
      refine wpAny_pure (setT_tail (fun b s₁ Q' q => ?_) ho hex hd g1 nd1 m1 hb1 ?_ ?_ ?_ fun h' sb r => ?_)
      · cases b
        · first | exact wpAny_pure q | exact wpAny_rule q
        · first | exact wpAny_pure q | exact wpAny_rule q
      · first | (split <;> first | exact hf1 | exact SetTable.fits_plain_off hf1) | exact hf1
      · first | (split <;> exact hr1) | exact hr1
      · first | (split <;> exact hled) | exact hled
      · dsimp only
        exact wpAny_pure (fin h' sb r)
    · refine wpAny_bind (wpAny_pure ?_)
      simp only [↓reduceIte]
      refine setT_tail (fun b s₁ Q' q => ?_) ho hex hd g1 nd1 m1 hb1 hf1 hr1 hled fun h' sb r => ?_
      · cases b
        · first | exact wpAny_pure q | exact wpAny_rule q
        · first | exact wpAny_pure q | exact wpAny_rule q
      · dsimp only
        exact wpAny_pure (fin h' sb r)
/-! ### set(xs) -/
/-- a fresh set, as the model lays it -/
abbrev frS (w : World) : Obj := { cls := .type "set", dict := none, data := .set #[] 0 (.fresh 0 0 (!w.params.followText "set-order")) }
theorem setT_new {h : Heap} {a : Addr} {ns : List Str} (ho : h.get? a = some (frS w)) : SetT w h a (fun j => decide (j ∈ ns.take 0)) 0 := by
  refine ⟨_, #[], 0, _, ho, ⟨rfl, rfl, rfl⟩, rfl, (fun e he => by simp at he), (by simp), (fun k => by simp), (by decide), (by rfl), rfl, List.Pairwise.nil, ?_⟩
  show _ ∨ (!w.params.followText "set-order") = true
  cases w.params.followText "set-order" with
  | false => exact .inr rfl
  | true => exact .inl rfl
theorem set_loopT {I : Addr} {fp wr : List Addr} {G : Array GenState → Array GenState → Prop} {n : Nat} {Pv : Nat → Value → Prop} {St : Nat → Shared → Prop} {R : Result → Shared → Prop}
    (W : WalksS P w A.in1 I fp wr G n Pv St) (C : Addr) (hSf : C ∉ fp) (ns : List Str) (hn : n = ns.length) (hb : ns.length + 1 < scanBound) (hval : ∀ i v, Pv i v → ∃ k t, ns[i]? = some k ∧ v = .str k t) :
    ∀ (k i : Nat) (s : Shared), n - i = k → i ≤ n → St i s → (∃ c, c ≤ i ∧ SetT w s.heap C (fun j => decide (j ∈ ns.take i)) c) →
      (∀ s' c, Moved (C :: wr) G s s' → c ≤ n → SetT w s'.heap C (fun j => decide (j ∈ ns)) c → R (.ok (.ret .none)) s') → codeAny (model P w) A (.builtin "set.update.loop" ⟨[.ref C, .ref I], []⟩) R s := by
  have hSw : C ∉ wr := fun h => hSf (W.sub _ h)
  have hsub : ∀ b ∈ wr, b ∈ C :: wr := fun b hb => List.mem_cons_of_mem _ hb
  intro k
  induction k with
  | zero =>
    rintro i s hk' hi hst ⟨c, hc, hS⟩ hR
    obtain rfl : i = n := by omega
    refine codeAny_builtin F.entry_set_update_loop ?_
    rw [Around.under_plainId F.plain_set_update_loop _]
    refine wpAny_bind (W.done s _ _ hst fun s' hm => ?_)
    show wpAny _ A.in1 (ret Value.none) _ _ s'
    rw [List.take_of_length_le (by omega)] at hS
    exact wpAny_pure (hR s' c (hm.mono hsub) hc (hS.at fun o e => hm.heap C o hSw e))
  | succ k ih =>
    rintro i s hk' hi hst ⟨c, hc, hS⟩ hR
    have hlt : i < n := by omega
    refine codeAny_builtin F.entry_set_update_loop ?_
    rw [Around.under_plainId F.plain_set_update_loop _]
    refine wpAny_bind (W.item i s _ _ hlt hst fun v s' hP hst' hm => ?_)
    obtain ⟨z, t, hz, rfl⟩ := hval i v hP
    have hS' : SetT w s'.heap C (fun j => decide (j ∈ ns.take i)) c := hS.at fun o e => hm.heap C o hSw e
    show wpAny _ A.in1 (holding [Value.str z t] (setAdd C (.str z t)) >>= _) _ _ s'
    refine wpAny_bind (wpAny_holding ?_)
    unfold setAdd
    refine wpAny_holding (wpAny_bind ((PySem.strKind P w).pyHash (k := z) (strKind_is _ _ _ _) ?_))
    refine setT_add (s := { s' with toks := s'.toks + 1 }) hS' (by omega) fun h' hsb hS2 => ?_
    have hS3 : SetT w h' C (fun j => decide (j ∈ ns.take (i + 1))) (if decide (z ∈ ns.take i) = true then c else c + 1) := hS2.congr fun j => by
      rw [List.take_add_one, hz]
      simp [List.mem_append]
    have hc3 : (if decide (z ∈ ns.take i) = true then c else c + 1) ≤ i + 1 := by split <;> omega
    refine wpAny_pure ⟨plainId_quiet F.plain_set_update_loop _, ih (i + 1) _ (by omega) hlt (W.frame _ s' _ _ hst' (Nat.le_succ _) fun b hb o e => ?_) ⟨_, hc3, hS3⟩ fun s'' c2 hm2 hcc hS4 => ?_⟩
    · rw [hsb.2 b (fun h : b = C => hSf (by rw [← h]; exact hb))]
      exact e
    · refine hR s'' c2 (Moved.trans W.gtrans ((hm.mono hsub).then_heap (Nat.le_succ _) fun b o hb e => ?_) hm2) hcc hS4
      rw [hsb.2 b (fun h : b = C => hb (by rw [h]; exact List.mem_cons_self))]
      exact e
theorem call_setT {l : Addr} {items : Array Value} (ns : List Str) {Q : Value → Shared → Prop} (hh : A.handled = none) (hl : s.heap.IsList l items) (hit : StrsAre items.toList ns) (hb : ns.length + 1 < scanBound)
    (h : ∀ (h' : Heap) (tk c : Nat), SetT w h' s.heap.objs.size (fun j => decide (j ∈ ns)) c → c ≤ ns.length → (∀ b o, s.heap.get? b = some o → h'.get? b = some o) → Q (.ref s.heap.objs.size) { s with heap := h', toks := tk }) :
    wpAny (model P w) A (call (.type "set") [.ref l]) Q E s := by
  have hisz : items.size = ns.length := by
    have q := hit.len_eq
    rw [Array.length_toList] at q
    exact q
  obtain ⟨c, tl, hmro⟩ := PySem.F.called_set.mro
  have hmade := PySem.F.called_set.made
  have hsub := PySem.F.called_set.sub
  refine wpAny_call (codeAny_of_tree ?_)
  show wpAny _ _ (callAny (.type "set") _) _ _ _
  refine wpAny_pure ⟨Code.quiet_builtin _ (by decide +kernel), codeAny_builtin PySem.F.entry_type_call ?_⟩
  rw [Around.under_plain (weight_type_call_type "set" [.ref l] []) rfl]
  have h1 := PySem.F.called_set.notType
  have h2 := PySem.F.called_set.canCreate
  have hct := PySem.F.typeCall_set_1 (.ref l)
  repeat (any_goals (first | assumption | wp_step))
  refine codeAny_mono (code_set_led1 (.ref l) (E := E) (Q₁ := fun obj s₁ => obj = .ref s.heap.objs.size ∧ s₁ = { s with heap := s.heap.push (frS w) }) ⟨rfl, rfl⟩) fun r s₁ hr => ?_
  match r, hr with
  | .error e, hr => exact hr
  | .ok .next, hr => exact hr.elim
  | .ok .brk, hr => exact hr.elim
  | .ok .cont, hr => exact hr.elim
  | .ok (.ret obj), hr =>
    obtain ⟨rfl, rfl⟩ := hr
    have hS : (s.heap.push (frS w)).get? s.heap.objs.size = some (frS w) := Heap.get?_push_size _ rfl
    have hT : Shared.TypeIs { s with heap := s.heap.push (frS w) } (.ref s.heap.objs.size) "set" := ⟨_, hS, rfl⟩
    have hli := PySem.F.called_set.init.lookup
    have hbi := PySem.F.called_set.init.bind (.ref s.heap.objs.size)
    repeat (any_goals (first | assumption | wp_step))
    refine codeAny_mono (codeAny_call_builtin (R := wants (fun r s₂ => r = .none ∧ ∃ h' tk c, s₂ = { s with heap := h', toks := tk } ∧ SetT w h' s.heap.objs.size (fun j => decide (j ∈ ns)) c ∧ c ≤ ns.length ∧ (∀ b o, s.heap.get? b = some o → h'.get? b = some o)) E) PySem.F.called_set.init.plain PySem.F.entry_set_init (check_set_init_1 hT ?_)) fun r₂ s₂ hr₂ => ?_
    · obtain ⟨ol, hol, hcl, nl, hdl⟩ := hl
      obtain ⟨ocls, odict, odata, oslots⟩ := ol
      simp only at hcl hdl
      subst hcl; subst hdl
      have hol' : (s.heap.push (frS w)).get? l = some { cls := .type "list", dict := odict, data := .seq items nl, slots := oslots } := Heap.get?_push_of_some _ hol
      have hsls := PySem.F.sub_list_set
      have hslf := PySem.F.sub_list_frozenset
      have hne : (Value.type "list" == Value.type "dict") = false := by decide
      have hl1 : (s.heap.push (frS w)).IsList l items := ⟨_, hol', rfl, nl, rfl⟩
      unfold Builtin.«set.__init__» noKeywords Builtin.Frozenset.updateFrom
      generalize hPI : pyIter = PI
      wp_walk
      subst hPI
      refine wpAny_pyIter_list hl1 (wpAny_bind (wpAny_runValue ?_))
      have hlS : l < s.heap.objs.size := Heap.lt_size hol
      have hh3 : A.in1.in1.in1.handled = none := by simp [hh]
      have hneI : l ≠ (s.heap.push (frS w)).objs.size := by
        rw [Heap.size_push]
        exact Nat.ne_of_lt (Nat.lt_succ_of_lt hlS)
      have hSf : s.heap.objs.size ∉ [(s.heap.push (frS w)).objs.size, l] := by
        rw [Heap.size_push]
        intro z
        rcases List.mem_cons.mp z with z | z
        · exact Nat.ne_of_lt (Nat.lt_succ_self _) z
        · exact Nat.ne_of_gt hlS (List.mem_singleton.mp z)
      have hval : ∀ (i : Nat) (v : Value), items[i]? = some v → ∃ k t, ns[i]? = some k ∧ v = .str k t := fun i v hv => by
        obtain ⟨y, t, e1, e2⟩ := StrsAre.item hit i v (by rw [Array.getElem?_toList]; exact hv)
        exact ⟨y, t, e2, e1⟩
      have hget : ((s.heap.push (frS w)).push { cls := .type "list_iterator", data := .fields #[.ref l, .int 0 0] }).get? s.heap.objs.size = some (frS w) := Heap.get?_push_of_some _ hS
      refine set_loopT ((Walks.list hh3 _ l hneI items).toS) s.heap.objs.size hSf ns hisz hb hval (items.size - 0) 0 _ (by omega) (Nat.zero_le _) ⟨⟨_, Heap.get?_push_size _ rfl, rfl, rfl⟩, (hl1.push _)⟩ ⟨0, Nat.le_refl 0, setT_new hget⟩ fun s' c' hm hc' hS' => ?_
      obtain ⟨h', g2, d', tk', os'⟩ := s'
      have eg : g2 = s.gens := hm.gens
      have ed : d' = s.drawn := hm.drawn
      have eo : os' = s.os := hm.os
      subst eg; subst ed; subst eo
      show wpAny _ _ _ _ _ _
      refine wpAny_pure ?_
      show wpAny _ _ (ret Value.none) _ _ _
      rw [hisz] at hc'
      refine wpAny_pure ⟨rfl, h', tk', c', rfl, hS', hc', fun b o e => ?_⟩
      have hb0 : b < s.heap.objs.size := Heap.lt_size e
      refine hm.heap b o (fun z => ?_) (Heap.get?_push_of_some _ (Heap.get?_push_of_some _ e))
      rcases List.mem_cons.mp z with z | z
      · exact Nat.ne_of_lt hb0 z
      · have z2 := List.mem_singleton.mp z
        rw [Heap.size_push] at z2
        exact Nat.ne_of_lt (Nat.lt_succ_of_lt hb0) z2
    · match r₂, hr₂ with
      | .error e, hr₂ => exact hr₂
      | .ok .next, hr₂ => exact hr₂.elim
      | .ok .brk, hr₂ => exact hr₂.elim
      | .ok .cont, hr₂ => exact hr₂.elim
      | .ok (.ret r), hr₂ =>
        obtain ⟨rfl, h', tk, c', rfl, hS', hc', hk'⟩ := hr₂
        repeat (any_goals (first | assumption | wp_step))
        exact h _ _ _ hS' hc' hk'
/-! ### sorted -/
theorem strs_of : ∀ (l : List Value), (∀ v ∈ l, ∃ k tk, v = Value.str k tk) → StrsAre l (l.map fun v => keyT (0, v))
  | [], _ => .nil
  | v :: l, h => by
    obtain ⟨k, tk, rfl⟩ := h v List.mem_cons_self
    exact .cons k tk (strs_of l fun u hu => h u (List.mem_cons_of_mem _ hu))
theorem sorted_setT {Q : Value → Shared → Prop} (R : SetT w s.heap a S n) (hh : A.handled = none) (h64 : n < 64)
    (hQ : ∀ s' p (out : Array Value) (c : Nat) (ns : List Str), (∀ b o, s.heap.get? b = some o → s'.heap.get? b = some o) → s'.gens = s.gens → s'.os = s.os → s.heap.objs.size ≤ p → s'.heap.get? p = some (seqObj "list" out c) →
      StrsAre out.toList ns → sortedS ns = true → ns.Nodup → (∀ k, k ∈ ns ↔ S k = true) → ns.length = n → Q (.ref p) s') :
    wpAny (model P w) A (call (.builtin "sorted") [.ref a]) Q E s := by
  obtain ⟨o, es, ep, t, ho, hex, hd, g, nd, hm, hb, hf, hn, hr, hl⟩ := R
  refine Calls.call_function_entry kind_sorted plain_sorted entry_sorted (args_sorted1 _) ?_
  unfold Builtin.«sorted»
  refine wpAny_bind (m := checkCount "sorted" 1 1 _) (wpAny_pure (wpAny_bind (collect_set (A := A.in1) hh ⟨o, ho, hex.1, hd⟩ hf hb hr hl fun s1 vs k1 hz g1 o1 pm => ?_)))
  have hvl : vs.length = n := by rw [pm.length_eq, List.length_map, Array.length_toList]; exact hn
  have hI : StrsAre vs (vs.map fun v => keyT (0, v)) := strs_of vs fun v hv => by
    obtain ⟨e, he, rfl⟩ := List.mem_map.mp (pm.mem_iff.mp hv)
    obtain ⟨k, tk, h1, _⟩ := g e he
    exact ⟨k, tk, h1⟩
  have pk : (vs.map fun v => keyT (0, v)).Perm (es.toList.map keyT) := by
    have q := pm.map fun v => keyT (0, v)
    rw [List.map_map] at q
    exact q
  have hoL : (s1.heap.push (seqObj "list" vs.toArray 0)).get? s1.heap.objs.size = some (seqObj "list" vs.toArray 0) := Heap.get?_push_size _ rfl
  refine wpAny_bind (wpAny_newList ?_ (by rw [hvl, sizeLine_eq]; omega))
  refine wpAny_bind (wpAny_holding (wpAny_call_entry slot_list_sort ⟨_, hoL, rfl⟩ entry_list_sort (list_sort_treeK strKind_oneLt (s := { s1 with heap := s1.heap.push (seqObj "list" vs.toArray 0) }) hoL hI.keysOf (fun v₁ v₂ rest e => keyKind_strs (by rw [← e]; exact hI)) (by rw [hvl]; exact h64) fun st' hp hs => ⟨_, rfl, ?_⟩) (args_list_sort _)))
  obtain ⟨ys, q1, q2, q3⟩ := sorted_out_str hI hp hs
  obtain ⟨e', he'⟩ := sortedHeap_at (vs := vs) (out := (arrOf st').map (·.2)) hoL
  have pn : ys.Perm (es.toList.map keyT) := q2.trans pk
  refine wpAny_pure ⟨_, rfl, hQ _ s1.heap.objs.size ((arrOf st').map (·.2)) e' ys (fun b u e => ?_) g1 o1 hz he' q1 q3 (pn.nodup_iff.mpr nd) (fun k => by rw [pn.mem_iff, ← hm k]) ?_⟩
  · have q := k1 b u e
    have hlt := Heap.lt_size q
    show (sortedHeap (s1.heap.push (seqObj "list" vs.toArray 0)) s1.heap.objs.size vs ((arrOf st').map (·.2))).get? b = some u
    rw [sortedHeap_old (Nat.ne_of_lt hlt) (by rw [size_push']; exact Nat.lt_succ_of_lt hlt)]
    exact Heap.get?_push_of_some _ q
  · rw [pn.length_eq, List.length_map, Array.length_toList]
    exact hn
end
/-! ### the rules -/
/-- the set of the texts ns -/
def SetTx (w : World) (a : Addr) (ns : List Str) : HO := .ext fun h => ∃ c, c ≤ ns.length ∧ SetT w h a (fun j => decide (j ∈ ns)) c
def rSetTx (K : PySem.W.Frag) (w : World) : List V → Hp → VK → Prop := fun xs H Q => ∃ (l : Addr) (ns : List Str), xs = [V.ref l] ∧ SqL K H l (ns.map V.str) ∧ ns.length < 64 ∧ ∀ a, H a = none → Q (.ref a) (upd H a (SetTx w a ns))
def rSortTx (w : World) : List V → Hp → VK → Prop := fun xs H Q => ∃ (a : Addr) (ns : List Str), xs = [V.ref a] ∧ H a = some (SetTx w a ns) ∧ ns.length < 64 ∧ ∀ ys p, sortedS ys = true → ys.Nodup → (∀ k, k ∈ ys ↔ k ∈ ns) → ys.length < 64 → H p = none → Q (.ref p) (upd H p (.lst (ys.map V.str)))
section
variable {X : Cx}
theorem cr_setTx {K : PySem.W.Frag} {w : World} (eK : X.K = K) (ew : X.w = w) (hc : X.calm = true) : CallR X (.type "set") (rSetTx K w) := by
  subst eK ew
  intro pins s σ H xs us Q I r h
  obtain ⟨l, ns, rfl, hl, hf, q⟩ := h
  rw [Vals.ref1 r]
  obtain ⟨its, rv, pl, hz⟩ := I.list hl
  refine call_setT (P := X.prog) (w := X.w) ns (I.ok.hd hc) pl.isList (by simpa using rv.strs) (by unfold scanBound; omega) fun h' tk c R hcl k => ?_
  refine ⟨.ref s.heap.objs.size, upd H s.heap.objs.size (SetTx X.w s.heap.objs.size ns), I.laid (t' := tk) k (Nat.le_refl _) ?_, rfl, q _ (I.hok.fresh (Nat.le_refl _))⟩
  refine ⟨⟨c, hcl, R⟩, ?_, fun h1 h2 p k => ?_⟩
  · obtain ⟨o, _, _, _, ho, _⟩ := R
    exact ⟨o, ho⟩
  · obtain ⟨c2, b1, b2⟩ := p
    exact ⟨c2, b1, b2.at k⟩
theorem cr_sortTx {w : World} (ew : X.w = w) (hc : X.calm = true) : CallR X (.builtin "sorted") (rSortTx w) := by
  subst ew
  intro pins s σ H xs us Q I r h
  obtain ⟨a, ns, rfl, ha, h64, q⟩ := h
  obtain ⟨c, hcl, R⟩ := (I.hok a _ ha).1
  rw [Vals.ref1 r]
  refine sorted_setT R (I.ok.hd hc) (by omega) fun s' p out e ys k g o hp hg hi hs hn hm hl => ?_
  have hlen : (ys.map V.str).length ≤ sizeLine := by rw [List.length_map, sizeLine_eq]; omega
  have hn0 : H p = none := I.hok.fresh hp
  have J : Inv X pins σ (upd H p (.lst (ys.map V.str))) { s with heap := s'.heap, gens := s'.gens, drawn := s'.drawn, toks := s'.toks } :=
    I.call (ch := []) (Un.laid k hp hn0) (I.hok.laid k hp ⟨hlen, out.toList, e, vals_of_strs hi, hg⟩) (by rw [g]; exact I.bare) (fun _ z => nomatch z)
  have es : s' = { s with heap := s'.heap, gens := s'.gens, drawn := s'.drawn, toks := s'.toks } := by
    cases s'
    cases s
    cases o
    rfl
  rw [es]
  exact ⟨.ref p, _, J, rfl, q ys p hs hn (fun k => (hm k).trans decide_eq_true_iff) (by omega) hn0⟩
end
/-- one of two readings -/
theorem pe_or {X : Cx} {e : Expr} {t1 t2 : TE} (h1 : PE X e t1) (h2 : PE X e t2) : PE X e (fun σ H Q => t1 σ H Q ∨ t2 σ H Q) :=
  ⟨fun pins s σ H Q I h => h.elim (fun q => h1.run pins s σ H Q I q) fun q => h2.run pins s σ H Q I q⟩
end Sk
/-! x, *y = a list; try whose body raises nothing -/
namespace Sk
open PySem PySem.Spec PyProof.Rows L2
/-- the first item, a new list of the others -/
def gStarL (K : PySem.W.Frag) (t : TGs) : TG := fun v σ H Q => ∃ (l : Addr) (z : V) (zs : List V), v = .ref l ∧ SqL K H l (z :: zs) ∧ zs.length ≤ 16000 ∧ ∀ D, H D = none → t [z, .ref D] σ (upd H D (.lst zs)) Q
section
variable {X : Cx} {pos ps : Pos} {t1 t2 : Expr} {k : Nat} {t : TGs}
theorem unpack_first {prog : Program} {w : World} {A : Around} {E : Value → Shared → Prop} {s : Shared} {l : Addr} {items : Array Value} {Q : List Value → Shared → Prop} (hh : A.handled = none) (hl : s.heap.IsList l items) (h1 : 1 ≤ items.size) (hz : items.size ≤ 16384)
    (hQ : ∀ (h₂ : Heap) (tk : Nat), (∀ b o, b ≠ s.heap.objs.size → s.heap.get? b = some o → h₂.get? b = some o) → wpAny (model prog w) A (newList (items.toList.drop 1)) (fun d s₂ => Q (items.toList.take 1 ++ [d]) s₂) E { s with heap := h₂, toks := tk }) :
    wpAny (model prog w) A (unpackItems (.ref l) 2 (some 1)) Q E s := by
  have hll : l < s.heap.objs.size := by obtain ⟨o, ho, _⟩ := hl; exact Heap.lt_size ho
  have hlt : l ≠ s.heap.objs.size := Nat.ne_of_lt hll
  unfold unpackItems
  refine wpAny_bind ?_
  unfold notIterableAtAll
  refine wpAny_bind (wpAny_specialOf hl.typeIs slot_list_iter.lookup (wpAny_pure ?_))
  simp only [Bool.false_eq_true, if_false]
  refine wpAny_bind (wpAny_holding (wpAny_pyIter_list hl (wpAny_bind (wpAny_holding (PySem.W.kun_draw hlt 1 0 _ _ ⟨_, Heap.get?_push_size _ rfl, rfl, rfl⟩ (hl.push _) (by omega) fun h₁ hit₁ hs₁ => ?_)))))
  have hl₁ : h₁.IsList l items := (hl.push _).extBut hs₁.extBut hlt
  rw [Nat.zero_add] at hit₁
  obtain ⟨oi, hoi, _⟩ := id hit₁
  obtain ⟨ol, hol, _⟩ := id hl₁
  rw [List.drop_zero]
  have hfl : (items.toList.take 1).length = 1 := by rw [List.length_take, Array.length_toList]; omega
  rw [if_neg (show ¬ ((items.toList.take 1).length < 1) by rw [hfl]; omega)]
  refine wpAny_bind (wpAny_holding (PySem.W.kun_collect (s := { s with heap := h₁ }) (T := "list_iterator") (.inr (.inr (.inl rfl))) (Walks.list (A := A.in1) hh s.heap.objs.size l hlt items) (fun j u st => st.1.typeIs) (k := 1) (by omega) ⟨hit₁, hl₁⟩ (Heap.lt_size hoi) (Heap.lt_size hol) (fun h₂ tk hk => ?_) (by rw [sizeLine_eq]; omega)))
  have hrl : (items.toList.drop 1).length = items.size - 1 := by rw [List.length_drop, Array.length_toList]
  have hmid : (items.toList.drop 1).length - (2 - 1 - 1) = (items.toList.drop 1).length := by omega
  show wpAny _ _ (if (items.toList.drop 1).length < 2 - 1 - 1 then _ else _) _ _ _
  rw [if_neg (by omega)]
  show wpAny _ _ (newList ((items.toList.drop 1).take ((items.toList.drop 1).length - (2 - 1 - 1))) >>= fun d => pure (items.toList.take 1 ++ [d] ++ (items.toList.drop 1).drop ((items.toList.drop 1).length - (2 - 1 - 1)))) _ _ _
  rw [hmid, List.take_length, List.drop_length]
  refine wpAny_bind (wpAny_mono (hQ h₂ tk fun b o hb e => hk b o hb (hs₁.extBut b o hb (Heap.get?_push_of_some _ e))) (fun d s₂ q => ?_) fun _ _ z => z)
  rw [List.append_nil]
  exact wpAny_pure q
theorem pg_starL (hc : X.calm = true) (h : PGs X [t1, t2] t) (hn : (assignEach [t1, .Starred t2 ps] X.env).length = 2 := by rfl) (hst : (assignEach [t1, .Starred t2 ps] X.env).findIdx? (·.1) = some 1 := by rfl)
    (he : (assignEach [t1, .Starred t2 ps] X.env).map (·.2) = (assignEach [t1, t2] X.env).map (·.2) := by rfl) : PG X (.Tuple [t1, .Starred t2 ps] k pos) (gStarL X.K t) := by
  refine ⟨fun pins s σ H v u Q I r hw => ?_⟩
  obtain ⟨l, z, zs, rfl, hq, hl, hw⟩ := hw
  cases r
  obtain ⟨its, rv, pl, hz⟩ := I.list hq
  cases rv with
  | cons r1 r2 =>
    rename_i u1 us
    have hul := r2.length
    rw [PyProof.Rows.assign_Tuple]
    refine wpAny_bind (wpAny_standAt ?_)
    unfold unpack
    rw [hn, hst]
    refine wpAny_bind (wpAny_holding (unpack_first (I.ok.hd hc) pl.isList (by simp) (by simp; omega) fun h₂ tk hk => ?_))
    have k2 : ∀ b o, s.heap.get? b = some o → h₂.get? b = some o := fun b o e => hk b o (Nat.ne_of_lt (Heap.lt_size e)) e
    have I1 : Inv X pins σ H { s with heap := h₂, toks := tk } := I.kept k2
    refine wpAny_newList ?_ (by simp; rw [sizeLine_eq]; omega)
    have e1 : ((u1 :: us).toArray.toList.drop 1).toArray = us.toArray := by simp
    have e2 : (u1 :: us).toArray.toList.take 1 ++ [Value.ref h₂.objs.size] = [u1, .ref h₂.objs.size] := by simp
    show wpAny _ _ (assignInOrder _ ((u1 :: us).toArray.toList.take 1 ++ [Value.ref h₂.objs.size])) _ _ _
    rw [he, e2]
    have ho : (h₂.push { cls := .type "list", data := .seq ((u1 :: us).toArray.toList.drop 1).toArray }).get? h₂.objs.size = some (seqObj "list" us.toArray 0) := by
      rw [e1]
      exact Heap.get?_push_size _ rfl
    have J : Inv X pins σ (upd H h₂.objs.size (.lst zs)) { s with heap := h₂.push { cls := .type "list", data := .seq ((u1 :: us).toArray.toList.drop 1).toArray }, toks := tk } :=
      I1.laid (t' := tk) (fun b u e => Heap.get?_push_of_some _ e) (Nat.le_refl _) (show ObjOk X.prog X.w _ _ _ (.lst zs) from ⟨by rw [sizeLine_eq]; omega, us, 0, r2, ho⟩)
    exact h.run pins _ σ _ [z, .ref h₂.objs.size] _ Q J (.cons r1 (.cons rfl .nil)) (hw _ (I1.hok.fresh (Nat.le_refl _)))
/-- try: nothing is raised -/
theorem ps_try_nox {body : List Stmt} {h0 : ExceptHandler} {tb : TS} (hb : PSs X body tb) (hx : ∀ e s, X.xe e s → False := by intro _ _ z; exact z) : PS X (.Try body [h0] [] [] pos) tb := by
  refine ⟨fun pins s σ H D I h => wpAny_Try_except (wpAny_mono (hb.run pins s σ H D I h) (fun f s1 hsp => ?_) fun e s1 he => (hx e s1 he).elim)⟩
  cases f with
  | next => exact wpAny_execs_nil hsp
  | brk => exact hsp
  | cont => exact hsp
  | ret u => exact hsp
/-- sep.join(texts), K told -/
def rJoin (K : PySem.W.Frag) : V → List V → Hp → VK → Prop := fun x xs H Q => ∃ a p, ∃ ys : List Str, x = .str a ∧ xs = [.ref p] ∧ (SqL K H p (ys.map V.str) ∨ SqT K H p (ys.map V.str)) ∧ (ys.map (·.length)).sum + ys.length * a.length ≤ 16777216 ∧ Q (.str (Txt.join a ys)) H
theorem peJoin {K : PySem.W.Frag} {o e : Expr} {to te : TE} {apos : Pos} (eK : X.K = K) (ho : PE X o to) (he : PE X e te) (hs : starEach [e] X.env = [(false, eval e X.env)] := by rfl) (hbase : attributeBase o "join" X.env (eval o X.env) = eval o X.env := by rfl) (hline : (apos.endLine == pos.line) = true := by rfl) :
    PE X (.Call (.Attribute o "join" apos) [e] [] pos) (tM1 (rJoin K) to te) := by
  subst eK
  exact pe_join ho he hs hbase hline
end
end Sk
/-! a pool of draws: a list of three numbers -/
namespace Sk
open PySem PySem.Spec PyProof.Rows L2
/-- the pool at p: digits left, what is mixed, how many were mixed (at most n) -/
def PlAt (p : Addr) (n : Nat) (H : Hp) : Prop := ∃ d m c : Int, H p = some (.lst [.int d, .int m, .int c]) ∧ 0 ≤ d ∧ 0 ≤ m ∧ m < 2 ^ 62 ∧ 0 ≤ c ∧ c ≤ n
/-- the pool, the cells L that may change, the frozen part G -/
structure Hq (T : List (Addr × Str)) (p : Addr) (n : Nat) (L : List (Addr × HO)) (G H : Hp) : Prop where
  src : PlAt p n H
  fz : Fz G H
  gp : G p = none
  cel : ∀ x ∈ L, H x.1 = some x.2 ∧ G x.1 = none ∧ x.1 ≠ p ∧ NoTab x.2
  nod : (L.map (·.1)).Nodup
  tab : LamX.Tabs T H
section
variable {T : List (Addr × Str)} {p : Addr} {n : Nat} {L : List (Addr × HO)} {G H H' : Hp}
theorem Hq.mono {m : Nat} (s : Hq T p n L G H) (h : n ≤ m) : Hq T p m L G H := by
  obtain ⟨⟨d, mm, c, h1, h2, h3, h4, h5, h6⟩, c1, c2, c3, c4, c5⟩ := s
  exact ⟨⟨d, mm, c, h1, h2, h3, h4, h5, by omega⟩, c1, c2, c3, c4, c5⟩
/-- all that stood stands -/
theorem Hq.gr (s : Hq T p n L G H) (g : Gr T H H') : Hq T p n L G H' := by
  obtain ⟨⟨d, mm, c, h1, h2⟩, fz, gp, cel, nod, tab⟩ := s
  exact ⟨⟨d, mm, c, g.at h1 .lst, h2⟩, fz.gr g, gp, fun x hx => ⟨g.at (cel x hx).1 (cel x hx).2.2.2, (cel x hx).2⟩, nod, g.tab tab⟩
/-- the heap grew, and at a new place stands o -/
theorem Hq.grow {a : Addr} {o : HO} (s : Hq T p n L G H) (g : Gr T H H') (h : Nw H a) (e : H' a = some o) (nt : NoTab o) : Hq T p n ((a, o) :: L) G H' := by
  have s2 := s.gr g
  have no : ∀ u, H a = some u → ¬ NoTab u := fun u hu n2 => by
    obtain ⟨ps, z⟩ := h u hu
    exact n2.1 ps z
  obtain ⟨⟨d, mm, c, h1, _⟩, fz, gp, cel, nod, tab⟩ := s
  obtain ⟨b1, fz', _, cel', _, tab'⟩ := s2
  refine ⟨b1, fz', gp, fun y hy => ?_, ?_, tab'⟩
  · rcases List.mem_cons.mp hy with rfl | hy
    · refine ⟨e, ?_, fun z => ?_, nt⟩
      · cases q0 : G a with
        | none => rfl
        | some u => exact absurd (fz.nt a u q0) (no u (fz.sub a u q0))
      · exact no _ (by rw [show a = p from z]; exact h1) .lst
    · exact cel' y hy
  · rw [List.map_cons, List.nodup_cons]
    refine ⟨fun hm => ?_, nod⟩
    obtain ⟨y, hy, e2⟩ := List.mem_map.mp hm
    obtain ⟨c1, _, _, c4⟩ := cel y hy
    rw [e2] at c1
    exact no _ c1 c4
/-- a new cell -/
theorem Hq.new {a : Addr} {o : HO} (s : Hq T p n L G H) (h : H a = none) (nt : NoTab o) : Hq T p n ((a, o) :: L) G (upd H a o) := s.grow (Gr.new h) (.of h) upd_same nt
/-- what stands at the i-th cell -/
theorem Hq.get {i : Nat} {a : Addr} {o : HO} (s : Hq T p n L G H) (h : L[i]? = some (a, o)) : H a = some o := (s.cel (a, o) (List.mem_of_getElem? h)).1
/-- the i-th cell is written -/
theorem Hq.put {i : Nat} {a : Addr} {o o' : HO} (s : Hq T p n L G H) (h : L[i]? = some (a, o)) (nt : NoTab o') : Hq T p n (L.set i (a, o')) G (upd H a o') := by
  have hm := List.mem_of_getElem? h
  obtain ⟨⟨d, mm, c, h1, h2⟩, fz, gp, cel, nod, tab⟩ := s
  obtain ⟨c1, c2, c3, c4⟩ := cel _ hm
  have hi : i < L.length := (List.getElem?_eq_some_iff.mp h).1
  have ei : L[i] = (a, o) := (List.getElem?_eq_some_iff.mp h).2
  have sub : ∀ y ∈ L.set i (a, o'), y = (a, o') ∨ (y ∈ L ∧ y.1 ≠ a) := fun y hy => by
    obtain ⟨j, hj, ej⟩ := List.mem_iff_getElem.mp hy
    by_cases hij : i = j
    · subst hij
      rw [List.getElem_set_self] at ej
      exact .inl ej.symm
    · rw [List.getElem_set_ne hij] at ej
      refine .inr ⟨by rw [← ej]; exact List.getElem_mem _, fun z => hij ?_⟩
      rw [List.length_set] at hj
      have q1 : (L.map (·.1))[i]'(by rw [List.length_map]; exact hi) = (L.map (·.1))[j]'(by rw [List.length_map]; exact hj) := by
        rw [List.getElem_map, List.getElem_map, ei, ej, z]
      exact (List.getElem_inj nod).mp q1
  refine ⟨⟨d, mm, c, by rw [upd_ne (Ne.symm c3)]; exact h1, h2⟩, fz.put c2, gp, fun y hy => ?_, ?_, Tabs.upd tab c1 c4⟩
  · rcases sub y hy with rfl | ⟨hy, z⟩
    · exact ⟨upd_same, c2, c3, nt⟩
    · rw [upd_ne z]
      exact cel y hy
  · rw [List.map_set]
    have : (L.map (·.1)).set i a = L.map (·.1) := by
      have e2 : (L.map (·.1))[i]'(by rw [List.length_map]; exact hi) = a := by rw [List.getElem_map, ei]
      conv => rhs; rw [← List.set_getElem_self (as := L.map (·.1)) (i := i) (by rw [List.length_map]; exact hi)]
      rw [e2]
    show ((L.map (·.1)).set i a).Nodup
    rw [this]
    exact nod
/-- fewer cells -/
theorem Hq.sub {L' : List (Addr × HO)} (s : Hq T p n L G H) (h : L'.Sublist L) : Hq T p n L' G H := by
  obtain ⟨a, fz, gp, cel, nod, tab⟩ := s
  exact ⟨a, fz, gp, fun x hx => cel x (h.subset hx), nod.sublist (h.map _), tab⟩
/-- the first cell is frozen -/
theorem Hq.freeze {a : Addr} {o : HO} (s : Hq T p n ((a, o) :: L) G H) : Hq T p n L (upd G a o) H := by
  obtain ⟨sr, fz, gp, cel, nod, tab⟩ := s
  obtain ⟨c1, c2, c3, c4⟩ := cel _ (List.mem_cons_self ..)
  rw [List.map_cons, List.nodup_cons] at nod
  refine ⟨sr, fz.add c1 c4, ?_, fun x hx => ?_, nod.2, tab⟩
  · rw [upd_ne (Ne.symm c3)]
    exact gp
  · obtain ⟨d1, d2, d3, d4⟩ := cel x (List.mem_cons_of_mem _ hx)
    refine ⟨d1, ?_, d3, d4⟩
    rw [upd_ne (fun z => nod.1 (List.mem_map.mpr ⟨x, hx, z⟩))]
    exact d2
theorem Hq.drop1 {c : Addr × HO} (s : Hq T p n (c :: L) G H) : Hq T p n L G H := s.sub (.cons _ (.refl _))
theorem Hq.drop2 {c d : Addr × HO} (s : Hq T p n (c :: d :: L) G H) : Hq T p n (c :: L) G H := s.sub (.cons₂ _ (.cons _ (.refl _)))
theorem Hq.fzat {a : Addr} {o : HO} (s : Hq T p n L G H) (h : G a = some o) : H a = some o := s.fz.sub _ _ h
theorem Hq.gfree {a : Addr} (s : Hq T p n L G H) (h : H a = none) : G a = none := s.fz.free h
theorem Hq.cfree {c : Addr × HO} (s : Hq T p n (c :: L) G H) : G c.1 = none := (s.cel c (List.mem_cons_self ..)).2.1
theorem Hq.fzTup (s : Hq T p n L G H) (hL : ∀ x ∈ L, ∀ zs, x.2 ≠ .tup zs) : Hq T p n L (fzT G H) H := by
  obtain ⟨⟨d, mm, c, h1, h2⟩, fz, gp, cel, nod, tab⟩ := s
  refine ⟨⟨d, mm, c, h1, h2⟩, ⟨fun b o e => ?_, fun b o e => ?_⟩, fzT_none gp (fun zs z => by rw [h1] at z; cases z), fun y hy => ?_, nod, tab⟩
  · rcases fzT_cases e with z | ⟨z, _⟩
    · exact fz.sub b o z
    · exact z
  · rcases fzT_cases e with z | ⟨_, zs, z⟩
    · exact fz.nt b o z
    · rw [z]
      exact .tup
  · obtain ⟨c1, c2, c3⟩ := cel y hy
    exact ⟨c1, fzT_none c2 (fun zs z => hL y hy zs (Option.some.inj (c1.symm.trans z))), c3⟩
theorem Hq.less {G0 : Hp} (s : Hq T p n L G H) (h : Same G0 G) : Hq T p n L G0 H := by
  obtain ⟨sr, fz, gp, cel, nod, tab⟩ := s
  exact ⟨sr, ⟨fun b o e => fz.sub b o (h b o e), fun b o e => fz.nt b o (h b o e)⟩, h.free gp, fun y hy => ⟨(cel y hy).1, h.free (cel y hy).2.1, (cel y hy).2.2⟩, nod, tab⟩
/-- the pool is written -/
theorem Hq.pool {m : Nat} {d x c : Int} (s : Hq T p n L G H) (h0 : 0 ≤ d) (h1 : 0 ≤ x) (h2 : x < 2 ^ 62) (h3 : 0 ≤ c) (h4 : c ≤ m) : Hq T p m L G (upd H p (.lst [.int d, .int x, .int c])) := by
  obtain ⟨⟨d0, x0, c0, e, _⟩, fz, gp, cel, nod, tab⟩ := s
  exact ⟨⟨d, x, c, upd_same, h0, h1, h2, h3, h4⟩, fz.put gp, gp, fun y hy => by
    obtain ⟨c1, c2⟩ := cel y hy
    exact ⟨by rw [upd_ne c2.2.1]; exact c1, c2⟩, nod, Tabs.upd tab e .lst⟩
end
/-! ### ** of a wide base -/
def CPowW (i j : Int) : Prop := 0 ≤ j ∧ (Builtin.Int.intBits i : Int) * j ≤ 2 ^ 27
theorem op_powW {X : Cx} : OpR X (binaryOp .Pow) (rI CPowW fun i j => .int (i ^ j.toNat)) := opI fun _ _ _ _ _ _ _ hc q => PyProof.Rows.pow_int hc.1 hc.2 q
theorem bits_le {i : Int} {b : Nat} (h : i.natAbs < 2 ^ b) (h0 : 0 < b) : Builtin.Int.intBits i ≤ b := by
  unfold Builtin.Int.intBits
  split
  · omega
  · have := PySem.Flt.log2_lt_of h0 h
    omega
theorem wide_pow {i j : Int} {b : Nat} (h : i.natAbs < 2 ^ b) (h0 : 0 < b) (hj : 0 ≤ j) (hb : (b : Int) * j ≤ 2 ^ 27) : CPowW i j := by
  refine ⟨hj, Int.le_trans (Int.mul_le_mul_of_nonneg_right ?_ hj) hb⟩
  have := bits_le h h0
  omega
end Sk
/-! a dict that a call makes, walked; repr of a dict -/
namespace Sk
open PySem PySem.Spec PyProof.Rows L2
/-- what the expression makes is locked, and stays so -/
def tLockV (t : TE) : TE := fun σ H Q => t σ H fun x H1 => ∃ d u, x = .ref d ∧ H1 d = some u ∧ Mut (some u) ∧ ∀ od, Q x (upd H1 d (.frz od u))
theorem pe_lockV {X : Cx} {e : Expr} {t : TE} (h : PE X e t) : PE X e (tLockV t) := by
  refine ⟨fun pins s σ H Q I hw => thn (h.run pins s σ H _ I hw) fun v s1 ⟨x, H1, I1, r, d, u, ex, hd, mu, q⟩ => ?_⟩
  obtain ⟨od, I2⟩ := I1.lock hd mu
  exact ⟨x, _, I2, r, q od⟩
/-- a comprehension over anything that is walked, item by item what F says -/
theorem lc_gen {Tb : List (Addr × Str)} {J : It} {n : Nat} {GG : Hp → Prop} {Y : Nat → Hp → V → Hp → Prop} (wk : Walk J n GG Y) {g : TG} {tt : TT} {te : TE} {vs : List Nat} {σ : L2.St} {H1 : Hp} {D : Addr} {Qd : Hp → Prop} (F : Nat → Option V) (hD : H1 D = none) (hz : n ≤ 100000)
    (hG : ∀ H, Gr Tb H1 H → GG H) (hY : ∀ i H x H', Y i H x H' → Gr Tb H H')
    (turn : ∀ (i : Nat) (x : V) (H H' : Hp), i < n → Gr Tb H1 H' → Y i H x H' → ∀ (Rk : V → Hp → Prop) (Rs : Hp → Prop), (∀ y H4, F i = some y → Gr Tb H' H4 → Rk y H4) → (∀ H4, F i = none → Gr Tb H' H4 → Rs H4) →
      g x (wipe σ vs) H' fun σ2 H2 => wipe σ2 vs = wipe σ vs ∧ tt σ2 H2 fun b H3 => if b = true then te σ2 H3 Rk else Rs H3)
    (done : ∀ H, Gr Tb H1 H → H D = some (.lst ((List.range n).filterMap F)) → Qd H) :
    ∃ W : Nat → Nat → Hp → Prop, (∃ m, W 0 m (upd H1 D (.lst []))) ∧ ∀ i m H, W i m H →
      (J.stop i H ∧ Qd H) ∨ (J.go i H ∧ ∃ Nx : Hp → Prop, (∀ H', Nx H' → ∃ m', m' < m ∧ W (i + 1) m' H') ∧ ∀ x H', J.yld i H x H' → g x (wipe σ vs) H' fun σ2 H2 => wipe σ2 vs = wipe σ vs ∧ tt σ2 H2 fun b H3 =>
        if b = true then te σ2 H3 fun y H4 => ∃ acc, H4 D = some (.lst acc) ∧ acc.length < sizeLine ∧ Nx (upd H4 D (.lst (acc ++ [y]))) else Nx H3) := by
  have h0 : Gr Tb H1 (upd H1 D (.lst [])) := Gr.new hD
  let P : Nat → Hp → Prop := fun i H => Gr Tb H1 H ∧ H D = some (.lst ((List.range i).filterMap F))
  refine ⟨fun i m H => m = n - i ∧ i ≤ n ∧ P i H, ⟨n, rfl, Nat.zero_le _, h0, upd_same⟩, ?_⟩
  rintro i m H ⟨rfl, hi, p⟩
  have q := hG H p.1
  by_cases hlt : i < n
  · refine .inr ⟨wk.goes i H hlt q, P (i + 1), fun H' p' => ⟨n - (i + 1), by omega, rfl, hlt, p'⟩, fun x H' y => ?_⟩
    have yy := wk.yields i H x H' hlt q y
    have g1 := p.1.trans (hY _ _ _ _ yy)
    have hd := (hY _ _ _ _ yy).at p.2 .lst
    have lle : ((List.range i).filterMap F).length ≤ 100000 := by
      have h2 : ((List.range i).filterMap F).length ≤ i := Nat.le_trans (List.length_filterMap_le _ _) (by rw [List.length_range]; exact Nat.le_refl _)
      omega
    refine turn i x H H' hlt g1 yy (fun y H5 => ∃ acc, H5 D = some (.lst acc) ∧ acc.length < sizeLine ∧ P (i + 1) (upd H5 D (.lst (acc ++ [y])))) (P (i + 1)) (fun q H4 e gr => ?_) (fun H4 e gr => ?_)
    · have hd4 := gr.at hd .lst
      refine ⟨_, hd4, ?_, Gr.put hD (g1.trans gr) hd4, ?_⟩
      · rw [sizeLine_eq]
        omega
      · rw [upd_same, List.range_succ, List.filterMap_append, List.filterMap_cons, e]
        rfl
    · refine ⟨g1.trans gr, ?_⟩
      rw [List.range_succ, List.filterMap_append, List.filterMap_cons, e, gr.at hd .lst]
      simp
  · have e : i = n := by omega
    subst e
    exact .inl ⟨wk.stops H q, done H p.1 p.2⟩
/-- repr of a dict of numbers -/
def rReprD (K : PySem.W.Frag) : List V → Hp → VK → Prop := fun xs H Q => ∃ (a : Addr) (n : Num), xs = [.ref a] ∧ H a = some (.dK (dS n)) ∧ (numD n).showable = true ∧ (numD n).shown.length ≤ sizeLine ∧ (numD n).depth ≤ 50 ∧ Q (.str (numD n).shown) H
theorem crReprD {X : Cx} {K : PySem.W.Frag} (e : X.K = K) (hg : X.A.guards = some []) (hu : X.A.units + 64 < cLine) : CallR X (.builtin "repr") (rReprD K) := by
  subst e
  intro pins s σ H xs us Q I r h
  obtain ⟨a, n, rfl, ha, hs, hz, hdp, q⟩ := h
  obtain ⟨u, rfl, ru⟩ := vals1 r
  obtain ⟨as, rr, hsm⟩ := DpM.reads I (.inr ⟨a, n, rfl, ha, rfl⟩) ru
  obtain rfl : u = Value.ref a := ru
  exact PySem.repr_of_reads' rr hs hsm hg (by omega) (fun b o e => e) (fun h' u tk k => ⟨.str _, H, I.kept k, ⟨u, rfl⟩, q⟩) hz
/-- a number or None -/
def optV : Option Int → V
  | none => .non
  | some i => .int i
def optT : Option Int → Str
  | none => "None"
  | some i => toString i
def rReprO : List V → Hp → VK → Prop := fun xs H Q => ∃ o : Option Int, xs = [optV o] ∧ (∀ i, o = some i → i.natAbs.log2 < 1920) ∧ Q (.str (optT o)) H
theorem crReprO {X : Cx} : CallR X (.builtin "repr") rReprO := by
  intro pins s σ H xs us Q I r h
  obtain ⟨o, rfl, hz, q⟩ := h
  cases o with
  | none =>
    obtain ⟨u, rfl, rfl⟩ := vals1 r
    exact PySem.P.repr_of_none ⟨.str _, H, I.tok _, ⟨_, rfl⟩, q⟩
  | some i =>
    obtain ⟨u, rfl, t, rfl⟩ := vals1 r
    exact PySem.P.repr_of_int (hz i rfl) ⟨.str _, H, I.tok _, ⟨_, rfl⟩, q⟩
end Sk
/-! dicts of numbers compared, alike or not -/
namespace Sk
open PySem PySem.Spec PyProof.Rows L2
/-- each number of the one stands in the other -/
def subNum (ks ls : Num) : Bool := ks.all fun q => decide (get? ls q.1 = some q.2)
def eqNum (ks ls : Num) : Bool := ks.length == ls.length && subNum ks ls
section
variable {X : Cx}
theorem hits_num {A : Around} {s : Shared} {ls : Num} {vb : List (Key × Value)} (rb : KV (dS ls) vb) : ∀ {ks : Num} {va : List (Key × Value)}, KV (dS ks) va → PySem.W.KeqHits A s vb va (subNum ks ls)
  | [], va, ra => by
    cases ra
    exact .nil
  | q :: ks, va, ra => by
    cases ra with
    | cons h t =>
      rename_i kv va
      obtain ⟨h1, h2⟩ := h
      obtain ⟨k, v⟩ := kv
      have h1' : (Sum.inr q.1 : Key) = k := h1
      subst h1'
      obtain ⟨t1, e1⟩ : ∃ t, v = Value.int q.2 t := h2
      subst e1
      have rr : RelO ((get? ls q.1).map V.int) (PySem.valueAt vb (Sum.inr q.1)) := by
        rw [← valV_dS]
        exact rb.val (Sum.inr q.1)
      show PySem.W.KeqHits A s vb ((Sum.inr q.1, Value.int q.2 t1) :: va) (decide (get? ls q.1 = some q.2) && subNum ks ls)
      cases e : get? ls q.1 with
      | none =>
        rw [e] at rr
        have e2 : PySem.valueAt vb (Sum.inr q.1) = none := rr.none_of
        rw [decide_eq_false (by intro z; cases z), Bool.false_and]
        exact .miss e2
      | some j =>
        rw [e] at rr
        obtain ⟨y, hy, ry⟩ := rr.some_of
        obtain ⟨t2, e2⟩ : ∃ t, y = Value.int j t := ry
        subst e2
        refine .hit hy ?_ (hits_num rb t)
        have e3 : decide ((some j : Option Int) = some q.2) = (q.2 == j) := by
          rw [Bool.eq_iff_iff, decide_eq_true_eq, beq_iff_eq]
          exact ⟨fun z => (Option.some.inj z).symm, fun z => by rw [z]⟩
        rw [e3]
        exact SeqAt.EqAt.int_int q.2 t1 j t2
/-- dicts of numbers, == and != -/
def rNumD (neg : Bool) : R2 := fun x y H Q => ∃ (a b : Addr) (ks ls : Num), x = .ref a ∧ y = .ref b ∧ H a = some (.dK (dS ks)) ∧ H b = some (.dK (dS ls)) ∧ Q (.bl (if neg then !eqNum ks ls else eqNum ks ls)) H
theorem op_eqNum (hu : X.A.units < cLine) : OpR X (compareOp .Eq) (rNumD false) := by
  intro pins s σ H x y v u Q I rx ry h
  obtain ⟨a, b, ks, ls, rfl, rfl, ea, eb, q⟩ := h
  obtain rfl : v = Value.ref a := rx
  obtain rfl : u = Value.ref b := ry
  obtain ⟨_, ya, va, ra, da⟩ := (show ObjOk X.prog X.w H s.heap a (.dK (dS ks)) from I.hok a _ ea)
  obtain ⟨_, yb, vb, rb, db⟩ := (show ObjOk X.prog X.w H s.heap b (.dK (dS ls)) from I.hok b _ eb)
  have la := KV.length ra
  have lb := KV.length rb
  rw [dS_len] at la lb
  refine PySem.W.keq_eq (knd := mixKind X.prog X.w) ya yb da db hu (fun _ => hits_num rb ra) (fin_bl I q ?_)
  rw [← la, ← lb]
  rfl
theorem op_neNum (hu : X.A.units < cLine) : OpR X (compareOp .NotEq) (rNumD true) := by
  intro pins s σ H x y v u Q I rx ry h
  obtain ⟨a, b, ks, ls, rfl, rfl, ea, eb, q⟩ := h
  obtain rfl : v = Value.ref a := rx
  obtain rfl : u = Value.ref b := ry
  obtain ⟨_, ya, va, ra, da⟩ := (show ObjOk X.prog X.w H s.heap a (.dK (dS ks)) from I.hok a _ ea)
  obtain ⟨_, yb, vb, rb, db⟩ := (show ObjOk X.prog X.w H s.heap b (.dK (dS ls)) from I.hok b _ eb)
  have la := KV.length ra
  have lb := KV.length rb
  rw [dS_len] at la lb
  refine PySem.W.keq_ne (knd := mixKind X.prog X.w) ya yb da db hu (fun _ => hits_num rb ra) (fin_bl I q ?_)
  rw [← la, ← lb]
  rfl
end
theorem iteFb {k : Bool} {a b : Prop} (hk : k = false) (h : b) : if k = true then a else b := by
  rw [if_neg (by rw [hk]; exact Bool.false_ne_true)]
  exact h
theorem iteTb {k : Bool} {a b : Prop} (hk : k = true) (h : a) : if k = true then a else b := by
  rw [if_pos hk]
  exact h
theorem neV_bl {x y : Bool} (h : x = y) : (!decide (V.bl x = V.bl y)) = false := by
  rw [h]
  simp
theorem eqV_int (i j : Int) : decide (V.int i = V.int j) = decide (i = j) := by
  rw [Bool.eq_iff_iff, decide_eq_true_eq, decide_eq_true_eq]
  exact ⟨fun z => V.int.inj z, fun z => by rw [z]⟩
theorem get?_ndm {d : Num} (nd : (d.map (·.1)).Nodup) {q : Str × Int} (h : q ∈ d) : get? d q.1 = some q.2 := by
  induction d with
  | nil => cases h
  | cons a d ih =>
    rw [List.map_cons, List.nodup_cons] at nd
    unfold get?
    rw [List.find?_cons]
    rcases List.mem_cons.mp h with rfl | h
    · rw [decide_eq_true rfl]
      rfl
    · have ne : ¬ a.1 = q.1 := fun z => nd.1 (List.mem_map.mpr ⟨q, h, z.symm⟩)
      rw [decide_eq_false ne]
      exact ih nd.2 h
theorem eqNum_refl {d : Num} (nd : (d.map (·.1)).Nodup) : eqNum d d = true := by
  unfold eqNum subNum
  rw [Bool.and_eq_true, List.all_eq_true]
  exact ⟨beq_self_eq_true _, fun q hq => decide_eq_true (get?_ndm nd hq)⟩
end Sk
/-! stores: objects of three fields -/
namespace Sk
open PySem PySem.Spec PyProof.Rows L2
/-- a field, K told -/
theorem peFld {X : Cx} {K : PySem.W.Frag} {o : Expr} {ta : TE} {f : Str} {pos : Pos} (e : X.K = K) (he : PE X o ta) (hb : attributeBase o f X.env (eval o X.env) = eval o X.env := by rfl) : PE X (.Attribute o f pos) (tFld K ta f) := by
  subst e
  exact pe_fld he hb
theorem NoTab.own {x : Addr} : NoTab (.own x) := ⟨(fun _ e => by cases e), (fun _ e => by cases e)⟩
/-- where the class stands -/
def stC (K : PySem.W.Frag) : Addr := He.ga K "Store"
/-- a store's fields -/
def stF (a b c : Addr) : List (Str × V) := [("entries", .ref a), ("stock_numbers", .ref b), ("split_numbers", .ref c)]
theorem stF_e (a b c : Addr) : (stF a b c).lookup ("entries" : Str) = some (V.ref a) := by rfl
theorem stF_s (a b c : Addr) : (stF a b c).lookup ("stock_numbers" : Str) = some (V.ref b) := by rfl
theorem stF_p (a b c : Addr) : (stF a b c).lookup ("split_numbers" : Str) = some (V.ref c) := by rfl
theorem stF_1 (a : Addr) : putF "entries" (.ref a) [] = ([("entries", .ref a)] : List (Str × V)) := by rfl
theorem stF_2 (a b : Addr) : putF "stock_numbers" (.ref b) ([("entries", .ref a)] : List (Str × V)) = ([("entries", .ref a), ("stock_numbers", .ref b)] : List (Str × V)) := by rfl
theorem stF_3 (a b c : Addr) : putF "split_numbers" (.ref c) ([("entries", .ref a), ("stock_numbers", .ref b)] : List (Str × V)) = stF a b c := by rfl
theorem stF_putP (a b c c' : Addr) : putF "split_numbers" (.ref c') (stF a b c) = stF a b c' := by rfl
theorem stF_putS (a b c b' : Addr) : putF "stock_numbers" (.ref b') (stF a b c) = stF a b' c := by rfl
theorem stF_len (a b c : Addr) : (stF a b c).length < 1000 := by show 3 < 1000; decide
theorem stF_no {a b c : Addr} {m : Str} (h : m ≠ "entries" ∧ m ≠ "stock_numbers" ∧ m ≠ "split_numbers") : (stF a b c).lookup m = none := by
  unfold stF
  simp only [List.lookup]
  have e1 : (m == ("entries" : Str)) = false := by simpa using h.1
  have e2 : (m == ("stock_numbers" : Str)) = false := by simpa using h.2.1
  have e3 : (m == ("split_numbers" : Str)) = false := by simpa using h.2.2
  rw [e1, e2, e3]
/-- a cell was otherwise at the start and at the end -/
theorem Gr.put2 {T : List (Addr × Str)} {H H' : Hp} {s : Addr} {o1 o2 : HO} (g : Gr T H H') (h : H s = some o1) (n1 : NoTab o1) (n2 : NoTab o2) : Gr T (upd H s o2) (upd H' s o2) := by
  have h' := g.at h n1
  refine ⟨fun b u e n => ?_, fun t => ?_⟩
  · by_cases hb : b = s
    · rw [hb, upd_same] at e
      rw [hb, upd_same]
      exact e
    · rw [upd_ne hb] at e ⊢
      exact g.ext b u e n
  · have t1 : LamX.Tabs T (upd (upd H s o2) s o1) := Tabs.upd t (upd_same (H := H) (a := s)) n2
    have e : upd (upd H s o2) s o1 = H := by
      funext b
      by_cases hb : b = s
      · rw [hb, upd_same, h]
      · rw [upd_ne hb, upd_ne hb]
    rw [e] at t1
    exact Tabs.upd (g.tab t1) h' n1
/-- a class made by keywords alone -/
structure MakK (P : Program) (w : World) (K : PySem.W.Frag) (mg : Str → Option Value) (base : Heap) (k : Nat) (x : Str) (C : Addr) (sp : Sp) (ks : List Str) (gV : List V → List V → List V) : Prop where
  ex : ∃ (f : Addr) (fd : FuncData) (ps : List Str) (g : List Value → List Value → List Value), Mk K C f ∧ FnOk P w K mg base CX0 k f fd ps sp ∧ mg x = some (.ref C) ∧ KBn K fd ps 1 ks g gV
section
variable {X : Cx} {k j : Nat} {C : Addr} {x : Str} {sp : Sp} {ks : List Str} {gV : List V → List V → List V} {tk : TA} {kws : List Keyword} {p pos : Pos}
theorem pe_mkK (c : MakK X.prog X.w X.K X.mg X.base k x C sp ks gV) (hr : Room j X.A) (hj : k + 1 ≤ j) (hg : Gl X x) (hkw : PK X kws tk) (hdb : (x == ("__debug__" : Str)) = false := by decide)
    (hall : (backToKw pos (keywordEach kws X.env)).all (·.1.isSome) = true := by rfl) (hks : (backToKw pos (keywordEach kws X.env)).filterMap (·.1) = ks := by rfl)
    (hpl : ((backTo pos (starEach [] X.env)).any (·.1) || (backToKw pos (keywordEach kws X.env)).any (·.1.isNone)) = false := by rfl) : PE X (.Call (.Name x p) [] kws pos) (tMakeN C 0 ks.length sp gV E0 tNil tk) := by
  obtain ⟨f, fd, ps, g, M, F, hm, hb⟩ := c.ex
  refine ⟨fun pins s σ H Q I h => ?_⟩
  refine wpAny_Call_Name_kw (ld_glob I hg hm ?_ hdb)
  refine PySem.W.callWith_KW0 (h₀ := X.base) I.ok.mod.kin M.kp hall ?_ hpl
  refine thn (hkw.run pos pins s σ H _ I h) fun ws s2 ⟨zs, H2, I2, rz, l1, l2, q2⟩ => ⟨I2.kIn, ?_⟩
  rw [hks]
  exact run_makeN M F (hr.mono hj) hb pass0 I2 .nil rz rfl l2 q2
end
end Sk
/-! == and != of own instances with an own __eq__: both answers -/
namespace PySem
open PySem.W Builtin
section
variable {prog : Program} {w : World} {A : Around} {E : Value → Shared → Prop} {s : Shared} {K : Frag} {x C L f : Addr} {h₀ : Heap} {m : Str → Option Value} {ox : Obj} {od : Option Obj} {name : Str} {b tb : Value}
theorem ifBound_KB {M : Model} {args : List Value} {id : String} {Q : Option Value → Shared → Prop} (X : K.In s.heap) (I : InstAt s.heap x ox C od) (hs : findIn K (.ref C) name = some (some (.builtin id))) (hb : ∀ self, bindSpecial (.builtin id) self = pure (.builtin id, [self]))
    (h : wpAny M A (call (.builtin id) (.ref x :: args)) (fun v => Q (some v)) E s) : wpAny M A (callSpecialIfBound? (.ref x) name args) Q E s := by
  simp only [callSpecialIfBound?, bindSpecialIfBound?]
  refine wpAny_holding (wpAny_bind (wpAny_bind (wpAny_bind (I.type.here ((looks_findIn X hs).here ?_)))))
  simp only [hb]
  refine wpAny_bind (wpAny_askSetting (wpAny_ite ?_))
  have fin : wpAny M A (call (.builtin id) ([.ref x] ++ args) >>= fun v => pure (some v)) Q E s := wpAny_bind (wpAny_mono h (fun v s' h' => wpAny_pure h') fun _ _ h' => h')
  split
  · exact wpAny_bind (wpAny_pure (wpAny_pure fin))
  · exact wpAny_tryCatch (wpAny_bind (wpAny_pure (wpAny_pure fin)))
theorem checkSlot_K {M : Model} {id owner n : String} {rest : List Value} {Q : Unit → Shared → Prop} (X : K.In s.heap) (I : InstAt s.heap x ox C od) (hk : builtinKind id = some .slot) (hs : splitId id = some (owner, n)) (ha : argsOk id ⟨.ref x :: rest, []⟩)
    (hO : subIn K (.ref C) (.type owner) = some true) (hq : Q () s) : wpAny M A (checkBuiltinCall id ⟨.ref x :: rest, []⟩) Q E s := by
  simp only [checkBuiltinCall, hk, hs]
  refine wpAny_bind ?_
  · have isI : Looks M s.heap (isInstance (.ref x) (.type owner)) true := by
      unfold isInstance
      exact I.type.andThen (looks_subIn X hO)
    refine wpAny_bind (I.type.here ((looks_subIn X hO).here ?_))
    repeat wp_step
    cases hsig : Manifest.signature? id with
    | none => exact wpAny_pure hq
    | some sig =>
      simp only [argsOk, hsig] at ha
      have h2 : Bind.checkArgs id sig ⟨.ref x :: rest, []⟩ = pure () := ha
      show wpAny M A (Bind.checkArgs id sig ⟨.ref x :: rest, []⟩) Q E _
      rw [h2]; exact wpAny_pure hq
theorem objNe_K {Q : Fin → Shared → Prop} (hu : A.units < cLine) (X : K.In s.heap) (I : InstAt s.heap x ox C od) (hs : findIn K (.ref C) "__eq__" = some (some (.ref f))) (hf : isFn K (.ref f) = true)
    (h : wpAny (model prog w) A (call (.ref f) [.ref x, b]) (fun v s' => ∃ r, v = .bool r ∧ Q (.done (.ret (.bool (!r)))) s') E s) :
    wpAny (model prog w) A (Builtin.«object.__ne__» ⟨[.ref x, b], []⟩) Q E s := by
  unfold Builtin.«object.__ne__»
  repeat (first
    | with_reducible refine wpAny_cRoomFor hu ?_
    | (refine wpAny_bind (m := callSpecialIfBound? (.ref x) (Str.ofString "__eq__") [b])
        (ifBound_K X I hs hf (wpAny_mono h (fun r s' hr => by
          obtain ⟨b, rfl, hq⟩ := hr
          repeat (first | exact hq | exact wpAny_pure hq | exact wpAny_truthy_bool hq | (refine wpAny_bind (m := truthy (.bool _)) (wpAny_truthy_bool ?_)) | wp_step)) fun _ _ e => e)))
    | wp_step)
theorem cmpNe_K {Q : Value → Shared → Prop} (hu : A.units + 1 < cLine) (X : K.In s.heap) (I : InstAt s.heap x ox C od) (hb : Looks (model prog w) s.heap (typeOf b) tb) (hn : notFirst K C tb = true)
    (hN : findIn K (.ref C) "__ne__" = some (some (.builtin "object.__ne__"))) (hO : subIn K (.ref C) (.type "object") = some true) (hs : findIn K (.ref C) "__eq__" = some (some (.ref f))) (hf : isFn K (.ref f) = true)
    (h : wpAny (model prog w) A.in1 (call (.ref f) [.ref x, b]) (fun v s' => ∃ r, v = .bool r ∧ Q (.bool (!r)) s') E s) : wpAny (model prog w) A (richCompare .NotEq (.ref x) b) Q E s := by
  have hu0 : A.units < cLine := Nat.lt_of_succ_lt hu
  have one : wpAny (model prog w) A (tryCompare (.ref x) "__ne__" b) (fun r s' => ∃ v, r = some v ∧ Q v s') E s := by
    unfold tryCompare
    refine wpAny_bind (ifBound_KB X I hN (F.slot_object_ne).bind (wpAny_call (codeAny_call_builtin (F.slot_object_ne).plain F.cmpEntry_ne
      (checkSlot_K X I F.cmpKind_ne F.cmpSplit_ne (F.cmpArgs_ne _ _) hO (objNe_K (A := A.in1) hu X I hs hf (wpAny_mono h (fun v s' hv => ?_) fun _ _ e => e))))))
    obtain ⟨b, rfl, hq⟩ := hv
    first | exact ⟨b, rfl, wpAny_pure ⟨_, rfl, hq⟩⟩ | exact ⟨b, rfl, wpAny_pure (wpAny_pure ⟨_, rfl, hq⟩)⟩ | exact ⟨b, rfl, ⟨_, rfl, hq⟩⟩
  unfold richCompare
  simp only [oneThing_ref]
  refine wpAny_holding (wpAny_bind (wpAny_cRoomFor hu0 ?_))
  rw [cmpInfo_NotEq]
  dsimp only
  refine wpAny_bind (I.type.here (wpAny_bind (hb.here ?_)))
  split
  · rename_i q
    have e : subIn K tb (.ref C) = some false := by
      rcases Bool.or_eq_true_iff.mp hn with e | e
      · rw [beq_iff_eq.mp e] at q; simp at q
      · exact beq_iff_eq.mp e
    refine wpAny_bind ((looks_subIn X e).here ?_)
    simp only [Bool.false_eq_true, if_false]
    refine wpAny_bind (wpAny_mono one (fun r s' z => ?_) fun _ _ e => e)
    obtain ⟨v, rfl, hq⟩ := z
    exact wpAny_pure hq
  · refine wpAny_bind (wpAny_pure ?_)
    simp only [Bool.false_eq_true, if_false]
    refine wpAny_bind (wpAny_mono one (fun r s' z => ?_) fun _ _ e => e)
    obtain ⟨v, rfl, hq⟩ := z
    exact wpAny_pure hq
end
end PySem
namespace Sk
open PySem PySem.Spec PyProof.Rows L2
/-- what != of an own class needs -/
structure NeK (K : PySem.W.Frag) (C : Addr) : Prop where
  ne : PySem.W.findIn K (.ref C) "__ne__" = some (some (.builtin "object.__ne__"))
  ob : PySem.W.subIn K (.ref C) (.type "object") = some true
def rEqI (C : Addr) (sp : Sp) : R2 := fun x y H Q => ∃ a b dx dy fs gs, x = .ref a ∧ y = .ref b ∧ H a = some (.ins C dx fs) ∧ H b = some (.ins C dy gs) ∧ sp [.ref a, .ref b] H (fun v H' => ∃ r, v = .bl r ∧ Q (.bl r) H') E0
def rNeI (C : Addr) (sp : Sp) : R2 := fun x y H Q => ∃ a b dx dy fs gs, x = .ref a ∧ y = .ref b ∧ H a = some (.ins C dx fs) ∧ H b = some (.ins C dy gs) ∧ sp [.ref a, .ref b] H (fun v H' => ∃ r, v = .bl r ∧ Q (.bl (!r)) H') E0
section
variable {X : Cx} {k : Nat} {C : Addr} {sp : Sp}
theorem call_eqI {A : Around} {f : Addr} {fd : FuncData} {ps : List Str} {pins : List (Addr × Obj)} {s : Shared} {σ : L2.St} {H : Hp} {a b : Addr} {R : Bool → Hp → Prop} (F : FnOk X.prog X.w X.K X.mg X.base CX0 k f fd ps sp) (hb : Binds X.K fd ps []) (sb : Sub X k A) (I : Inv X pins σ H s)
    (hsp : sp [.ref a, .ref b] H (fun v H' => ∃ r, v = .bl r ∧ R r H') E0) :
    wpAny (model X.prog X.w) A (call (.ref f) [.ref a, .ref b]) (fun v s' => ∃ r H', v = .bool r ∧ Inv X pins σ H' s' ∧ R r H') X.xe s := by
  have e0 : Env0 X.prog X.w X.K X.mg X.base A X.stack s H := by
    have e := I.env0
    exact ⟨by rw [sb.fr]; exact e.frames, e.mod, e.bs, e.bsz, e.funs, e.frf, e.hok, e.bare⟩
  have hl := F.len _ _ _ _ hsp
  have r2 : Vals [V.ref a, V.ref b] [Value.ref a, Value.ref b] := .cons rfl (.cons rfl .nil)
  refine wpAny_call (codeAny_mono (F.run A X.stack s H ⟨[.ref a, .ref b], []⟩ [.ref a, .ref b] [.ref a, .ref b] _ E0 sb.room e0 (by
    have := hb s [.ref a, .ref b] I.kIn (by simpa using hl)
    simpa using this) r2 hsp) fun r s' hq => ?_)
  cases r with
  | error e => exact pass0 pins σ H s e s' I hq
  | ok fl =>
    cases fl with
    | ret w =>
      obtain ⟨z, H', I', rz, r, ez, q⟩ := I.after hq
      subst ez
      cases rz
      exact ⟨r, H', rfl, I', q⟩
    | next => exact False.elim hq
    | brk => exact False.elim hq
    | cont => exact False.elim hq
theorem op_eqI {j : Nat} (c : C8.Met X.prog X.w X.K X.mg X.base k C "__eq__" sp []) (hr : Room j X.A) (hj : k ≤ j) : OpR X (compareOp .Eq) (rEqI C sp) := by
  intro pins s σ H x y v u Q I rx ry hq
  obtain ⟨f, fd, ps, ds, hc, hm, F, hb, d⟩ := c.ex
  cases d
  obtain ⟨a, b, dx, dy, fs, gs, rfl, rfl, ha, hb', hsp⟩ := hq
  cases rx
  cases ry
  obtain ⟨mA, J, _⟩ := ins_get I.hok ha
  obtain ⟨mB, J', _⟩ := ins_get I.hok hb'
  obtain ⟨od, J, _⟩ := J.look
  obtain ⟨od', J', _⟩ := J'.look
  obtain ⟨m, hF⟩ := I.fr
  have sb : Sub X k X.A := ⟨hr.mono hj, rfl⟩
  show wpAny (model X.prog X.w) X.A (richCompare .Eq (.ref a) (.ref b)) (EP X pins σ Q) X.xe s
  refine PySem.W.cmp_K (op := .Eq) (tb := .ref C) sb.room.units0 hF I.ok.mod.kin J J'.type (by simp [PySem.W.notFirst]) hm.at_ hm.fn ?_
  refine wpAny_mono (call_eqI F hb sb I hsp) (fun v s' z => ?_) fun _ _ x => x
  obtain ⟨r, H', rfl, I', q⟩ := z
  exact ⟨.bl r, H', I', rfl, q⟩
theorem op_neI {j : Nat} (c : C8.Met X.prog X.w X.K X.mg X.base k C "__eq__" sp []) (n : NeK X.K C) (hr : Room j X.A) (hj : k + 1 ≤ j) : OpR X (compareOp .NotEq) (rNeI C sp) := by
  intro pins s σ H x y v u Q I rx ry hq
  obtain ⟨f, fd, ps, ds, hc, hm, F, hb, d⟩ := c.ex
  cases d
  obtain ⟨a, b, dx, dy, fs, gs, rfl, rfl, ha, hb', hsp⟩ := hq
  cases rx
  cases ry
  obtain ⟨mA, J, _⟩ := ins_get I.hok ha
  obtain ⟨mB, J', _⟩ := ins_get I.hok hb'
  obtain ⟨od, J, _⟩ := J.look
  obtain ⟨od', J', _⟩ := J'.look
  have sb : Sub X (k + 1) X.A := ⟨hr.mono hj, rfl⟩
  show wpAny (model X.prog X.w) X.A (richCompare .NotEq (.ref a) (.ref b)) (EP X pins σ Q) X.xe s
  refine cmpNe_K (tb := .ref C) ?_ I.kIn J J'.type (by simp [PySem.W.notFirst]) n.ne n.ob hm.at_ hm.fn ?_
  · have := hr.units
    omega
  refine wpAny_mono (call_eqI F hb sb.in1 I hsp) (fun v s' z => ?_) fun _ _ x => x
  obtain ⟨r, H', rfl, I', q⟩ := z
  exact ⟨r, rfl, .bl (!r), H', I', rfl, q⟩
end
/-- a method that is called by keywords alone -/
structure MetK (P : Program) (w : World) (K : PySem.W.Frag) (mg : Str → Option Value) (base : Heap) (k : Nat) (C : Addr) (m : Str) (sp : Sp) (ks : List Str) (gV : List V → List V → List V) : Prop where
  ex : ∃ (f : Addr) (fd : FuncData) (ps : List Str) (g : List Value → List Value → List Value), Cls K C ∧ Meth K C m f ∧ FnOk P w K mg base CX0 k f fd ps sp ∧ KBn K fd ps 1 ks g gV
def tMethK (C : Addr) (m : Str) (n : Nat) (sp : Sp) (gV : List V → List V → List V) (ta : TE) (tk : TA) : TE := fun σ H Q => ta σ H fun x H1 => ∃ a dx fs, x = .ref a ∧ H1 a = some (.ins C dx fs) ∧ fs.lookup m = none ∧
  tk σ H1 fun zs H2 => zs.length = n ∧ sp (gV [x] zs) H2 Q E0
section
variable {X : Cx} {k j : Nat} {C : Addr} {m : Str} {sp : Sp} {ks : List Str} {gV : List V → List V → List V} {o : Expr} {ta : TE} {tk : TA} {kws : List Keyword} {pos apos : Pos}
theorem pe_mtK {pl : Sem Bool} (c : MetK X.prog X.w X.K X.mg X.base k C m sp ks gV) (hr : Room j X.A) (hj : k ≤ j) (he : PE X o ta) (hkw : PK X kws tk)
    (hall : (backToKw pos (keywordEach kws X.env)).all (·.1.isSome) = true := by rfl) (hks : (backToKw pos (keywordEach kws X.env)).filterMap (·.1) = ks := by rfl)
    (hpl : ((backTo pos (starEach [] X.env)).any (·.1) || (backToKw pos (keywordEach kws X.env)).any (·.1.isNone)) = false := by rfl)
    (ht : eval (.Call (.Attribute o m apos) [] kws pos) X.env = (do
      let ov ← eval o X.env
      standAt apos.atName
      let (f, first) ← holding [ov] (getMethod ov m pl)
      callWith pos f first (backTo pos (starEach [] X.env)) (backToKw pos (keywordEach kws X.env))) := by rfl) :
    PE X (.Call (.Attribute o m apos) [] kws pos) (tMethK C m ks.length sp gV ta tk) := by
  obtain ⟨f, fd, ps, g, hc, hm, F, hb⟩ := c.ex
  refine ⟨fun pins s σ H Q I h => ?_⟩
  refine PySem.W.methodCall_KW (pl := pl) (thn (he.run pins s σ H _ I h) fun u s1 ⟨x, H1, I1, rx, a, dx, fs, ex, ea, l, q⟩ => ?_) ht
  subst ex
  obtain rfl : u = Value.ref a := rx
  refine getmeth_ok I1 ea hc hm l ?_
  refine PySem.W.callWith_KW0 (first := [.ref a]) (h₀ := X.base) I.ok.mod.kin hm.kp hall ?_ hpl
  refine thn (hkw.run pos pins s1 σ H1 _ I1 q) fun ws s2 ⟨zs, H2, I2, rz, l2, q2⟩ => ⟨I2.kIn, ?_⟩
  rw [hks]
  exact run_fnN (us := [.ref a]) (vs := [.ref a]) F (hr.mono hj) hb pass0 I2 (.cons rfl .nil) rz rfl l2 q2
end
/-- l.count(i), ints -/
def rCountI : V → List V → Hp → VK → Prop := fun x xs H Q => ∃ (a : Addr) (ns : List Int) (i : Int), x = .ref a ∧ xs = [.int i] ∧ H a = some (.lst (ns.map V.int)) ∧ Q (.int (ns.count i : Nat)) H
theorem mt_countI {X : Cx} : MtR X "list.count" rCountI := by
  intro pins s σ H x xs v us Q I rx rxs h
  obtain ⟨a, ns, i, rfl, rfl, ha, q⟩ := h
  cases rx
  cases rxs with
  | cons ry rt =>
    cases rt
    obtain ⟨t, rfl⟩ := (show ∃ t, _ = Value.int i t from ry)
    obtain ⟨hz, its, n, rv, hob⟩ := I.hok a _ ha
    exact PyProof.Rows.count_list_ints ⟨_, hob, rfl, _, rfl⟩ rv.ints ⟨.int (ns.count i : Nat), H, I.tok _, ⟨_, rfl⟩, q⟩
end Sk
/-! the end of a law that asks for repr of lists: the promise of `law` is given where no repr is under way -/
namespace Sk
open PySem PySem.Spec PyProof.Rows L2
/-- what a function keeps when it is called with no repr under way -/
def FnG (P : Program) (w : World) (K : PySem.W.Frag) (mg : Str → Option Value) (base : Heap) (k : Nat) (f : Addr) (fd : FuncData) (ps : List Str) (sp : Sp) : Prop :=
  ∀ (A : Around) (outer : List Env) (s : Shared) (H : Hp) (args : Args) (us : List Value) (vs : List V) (Q : VK) (E : XK), A.guards = some [] → Room k A → Env0 P w K mg base A outer s H → BindsTo s fd args (ps.zip us) → Vals vs us → sp vs H Q E →
    codeAny (model P w) A (.call (.ref f) args) (CR CX0 outer P w H s Q E) s
section
variable {P : Program} {w : World} {K : PySem.W.Frag} {mg : Str → Option Value} {base : Heap}
theorem fnG_of {x qual : Str} {params : Arguments} {body : List Stmt} {scope : Scope} {f : Addr} {fd : FuncData} {N ps : List Str} {k : Nat} {sp : Sp} (F : FunD K x qual params body scope [] [] f fd) (S : FnScope N ps scope) (len : ∀ vs H Q E, sp vs H Q E → vs.length = ps.length)
    (hbody : ∀ (cdv : Value) (A : Around) (outer : List Env) (s : Shared) (H : Hp) (vs : List V) (Q : VK) (E : XK), A.guards = some [] → Room k (A.deeper (envOfC qual scope s.heap.objs.size f cdv)) → sp vs H Q E →
      ∃ t, PSs (cxOf CX0 P w K mg base N qual scope f cdv A outer s H E) body t ∧ t { nx := fun _ H' => Q .non H', rt := Q } (L2.start N vs) H) : FnG P w K mg base (k + 1) f fd ps sp := by
  obtain ⟨oc, od, dV, kV, doc, pm, an, cdv, ct, osl, rfl, lk, hcd, _, _⟩ := F.ex
  intro A outer s H args us vs Q E hg hr e0 hb hv hsp
  have up : ∀ b o, base.get? b = some o → s.heap.get? b = some o := fun b o e => (e0.bs b o e).1
  have kin : K.In s.heap := e0.mod.kin.keeps up
  have cells : ∀ q ∈ ps.zip us, scope.names.lookup q.1 = some .local ∨ (scope.names.lookup q.1 = some .cell ∧ ((cellsFrom (s.heap.objs.size + 1) scope.names []).lookup q.1).isSome = true) := by
    rintro ⟨y, v⟩ hq
    exact (S.par y (List.of_mem_zip hq).1).imp id fun z => ⟨z, PySem.W.cellsFrom_some _ _ _ (.inl z)⟩
  refine codeAny_call_function hr.depth (kin _ _ lk) rfl S.co S.gen rfl (PySem.W.codeRec_of kin hcd) (hb _ _ _ _ ?_)
  refine wpAny_newFunctionEnv_cells S.kind cells fun env he s1 x => ?_
  subst he
  obtain ⟨t, ht, hq⟩ := hbody cdv A outer s H vs Q E hg (hr.deeper _) hsp
  have J := inv_start S hr.hd e0 (len _ _ _ _ hsp) hv x (CX := CX0) (E := E)
  refine ⟨(e0.mod.nolimit.keeps up).keeps x.toInCall.keep, codeAny_func (wpAny_mono (ht.run [] s1 (L2.start N vs) H _ J hq) (fun fl s' hs => ?_) fun _ _ hs => hs)⟩
  cases fl with
  | ret u =>
    obtain ⟨v, σ', H', J', rv, q⟩ := hs
    exact ⟨v, H', J'.os, J'.bare, J'.base, J'.hok, rv, q⟩
  | next =>
    obtain ⟨σ', H', J', q⟩ := hs
    exact ⟨V.non, H', J'.os, J'.bare, J'.base, J'.hok, rfl, q⟩
  | brk =>
    obtain ⟨_, _, _, q⟩ := hs
    exact False.elim q
  | cont =>
    obtain ⟨_, _, _, q⟩ := hs
    exact False.elim q
end
/-! ### the start -/
/-- what is tracked when the law is called: the script (if it is not in K), the empty tables -/
def startH (K : PySem.W.Frag) (a : Addr) (o : Obj) (xs : List V) (ts : List Addr) : Hp := fun b => if b = a ∧ K.lookup a = none then some (.frz o (.lst xs)) else if b ∈ ts then some (.tbl #[]) else none
section
variable {P : Program} {w : World} {K : PySem.W.Frag} {mg mb : Str → Option Value} {k : Nat} {fa a : Addr} {cs : List (Addr × Addr)} {fd : FuncData} {x : Str} {sp : Sp} {s₁ : Shared} {vs : List Value} {ns : List Int}
theorem law_callG (KX : K.In s₁.heap) (hns : s₁.heap.Ns mainGlobals mg) (hb : s₁.heap.Ns builtinsNs mb) (hbb : ∀ x : Str, x ≠ "__name__" → mb x = bootBuiltins x) (hlim : s₁.heap.NoLimit) (hg : s₁.gens = #[])
    (hT : ∀ p ∈ cs, s₁.heap.get? p.2 = some { cls := .none, data := .fields #[] }) (nT : ∀ p ∈ cs, K.lookup p.2 = none) (C : ∀ p ∈ cs, PySem.W.CodeHd s₁.heap p.1 p.2)
    (hbm : ∃ (bm : Addr) (ob : Obj), mg "__builtins__" = some (.ref bm) ∧ bm ≠ builtinsNs ∧ s₁.heap.get? bm = some ob ∧ ob.cls = .type "module" ∧ ob.dict = some builtinsNs ∧ ob.data = .plain)
    (ha : s₁.heap.get? a = some { cls := .type "list", data := .seq vs.toArray }) (hi : IntsAre vs ns) (hl : ns.length ≤ sizeLine) (hr : Room k callerA)
    (F : ∀ base : Heap, K.In base → base.Ns mainGlobals mg → (∀ p ∈ cs, LamX.TabB base mg p.1 p.2) → FnG P w K mg base k fa fd [x] sp) (hbind : ∀ (s : Shared) (u : Value), BindsTo s fd ⟨[u], []⟩ [(x, u)])
    (hsp : ∀ H : Hp, (∀ p ∈ cs, H p.2 = some (.tbl #[])) → (∀ b, H b = none ∨ (∃ o xs, H b = some (.frz o (.lst xs))) ∨ H b = some (.tbl #[])) → SqL K H a (ns.map V.int) → sp [.ref a] H (fun v _ => v = .bl true) fun _ _ _ => False) :
    codeAny (model P w) callerA (.call (.ref fa) ⟨[.ref a], []⟩) (fun r s' => r = .ok (.ret (.bool true)) ∧ OldK s₁.heap s'.heap ∧ s'.os = s₁.os ∧ AllBare s'.gens) s₁ := by
  let O : Obj := { cls := .type "list", data := .seq vs.toArray }
  let ts := cs.map (·.2)
  let H := startH K a O (ns.map V.int) ts
  have tab : ∀ b ∈ ts, s₁.heap.get? b = some { cls := .none, data := .fields #[] } := fun b hb => by
    obtain ⟨p, hp, rfl⟩ := List.mem_map.mp hb
    exact hT p hp
  have an : a ∉ ts := fun z => by
    have e := tab a z
    rw [ha] at e
    cases e
  -- what stands at a place
  have look : ∀ b, (b = a ∧ K.lookup a = none ∧ H b = some (.frz O (.lst (ns.map V.int)))) ∨ (b ∈ ts ∧ H b = some (.tbl #[])) ∨ (H b = none ∧ b ∉ ts ∧ (b = a → K.lookup a ≠ none)) := fun b => by
    by_cases h1 : b = a ∧ K.lookup a = none
    · exact .inl ⟨h1.1, h1.2, if_pos h1⟩
    · by_cases h2 : b ∈ ts
      · exact .inr (.inl ⟨h2, (if_neg h1).trans (if_pos h2)⟩)
      · exact .inr (.inr ⟨(if_neg h1).trans (if_neg h2), h2, fun z n => h1 ⟨z, n⟩⟩)
  have ofTab : ∀ p ∈ cs, H p.2 = some (.tbl #[]) := fun p hp => by
    have hm : p.2 ∈ ts := List.mem_map.mpr ⟨p, hp, rfl⟩
    rcases look p.2 with ⟨e, _⟩ | ⟨_, q⟩ | ⟨_, q, _⟩
    · exact absurd (e ▸ hm) an
    · exact q
    · exact absurd hm q
  -- other objects are not tracked
  have free : ∀ {b : Addr} {o : Obj}, s₁.heap.get? b = some o → (∀ us n, o.data ≠ .seq us n) → o.data ≠ .fields #[] → H b = none := fun {b o} e h1 h2 => by
    rcases look b with ⟨z, _⟩ | ⟨z, _⟩ | ⟨q, _⟩
    · rw [z, ha] at e
      cases e
      exact absurd rfl (h1 _ _)
    · rw [tab b z] at e
      cases e
      exact absurd rfl h2
    · exact q
  have nsUp : ∀ {b : Addr} {m : Str → Option Value}, s₁.heap.Ns b m → (hidT s₁.heap H).Ns b m := fun {b m} ⟨o, es, ep, e, d, r⟩ =>
    ⟨o, es, ep, hidT_get e (free e (fun us n z => by rw [d] at z; cases z) fun z => by rw [d] at z; cases z), d, r⟩
  have kUp : K.In (hidT s₁.heap H) := fun b o e => hidT_get (KX b o e) (by
    rcases look b with ⟨z1, z2, _⟩ | ⟨z, _⟩ | ⟨q, _⟩
    · rw [z1, z2] at e
      cases e
    · obtain ⟨p, hp, rfl⟩ := List.mem_map.mp z
      rw [nT p hp] at e
      cases e
    · exact q)
  have md : L2.Mod K mg (hidT s₁.heap H) := ⟨kUp, nsUp hns, ⟨mb, nsUp hb, hbb⟩, let ⟨mc, h1, h2⟩ := hlim; ⟨mc, nsUp h1, h2⟩⟩
  have tb : ∀ p ∈ cs, LamX.TabB (hidT s₁.heap H) mg p.1 p.2 := fun p hp => by
    obtain ⟨og, _, _, eg, dg, _⟩ := hns
    refine ⟨?_, ?_, fun z => ?_⟩
    · obtain ⟨o, us, file, tf, flags, tg, inF, text, tt, e1, r1, r2, r3, rest⟩ := C p hp
      refine ⟨o, us, file, tf, flags, tg, inF, text, tt, hidT_get e1 (free e1 (fun vs n z => by rw [r2] at z; cases z) fun z => ?_), r1, r2, r3, rest⟩
      rw [r2] at z
      cases z
      simp at r3
    · obtain ⟨bm, ob, b1, b2, b3, b4, b5, b6⟩ := hbm
      refine ⟨bm, ob, b1, b2, fun q => ?_, fun q => ?_, hidT_get b3 (free b3 (fun us n z => by rw [b6] at z; cases z) fun z => by rw [b6] at z; cases z), b4, b5, b6⟩
      · rw [q, eg] at b3
        cases b3
        rw [dg] at b6
        cases b6
      · rw [q, hT p hp] at b3
        cases b3
        cases b6
    · rw [z, hT p hp] at eg
      cases eg
      cases dg
  have hok : HOk P w H s₁.heap := fun b u e => by
    rcases look b with ⟨z1, _, q⟩ | ⟨z, q⟩ | ⟨q, _⟩
    · rw [q] at e
      cases e
      rw [z1]
      exact ⟨ha, by rw [List.length_map]; exact hl, vs, _, vals_ints hi, ha⟩
    · rw [q] at e
      cases e
      exact tab b z
    · rw [q] at e
      cases e
  have hS : SqL K H a (ns.map V.int) := by
    cases hk : K.lookup a with
    | none => exact .inl (.inr ⟨O, if_pos ⟨rfl, hk⟩⟩)
    | some o =>
      have e := KX a o hk
      rw [ha] at e
      cases e
      exact .inr ⟨_, vs.toArray, _, hk, rfl, rfl, rfl, by rw [List.size_toArray, hi.length]; exact hl, by simpa using vals_ints hi⟩
  have e0 : Env0 P w K mg (hidT s₁.heap H) callerA [] s₁ H := ⟨rfl, md, fun b o e => of_hidT e, Nat.le_of_eq (hidT_size _ _), trivial, fun b hb => absurd (show b ∈ ([] : List Addr) from hb) (by simp), hok, .of_eq hg⟩
  have st : ∀ b, H b = none ∨ (∃ o xs, H b = some (.frz o (.lst xs))) ∨ H b = some (.tbl #[]) := fun b => by
    rcases look b with ⟨_, _, q⟩ | ⟨_, q⟩ | ⟨q, _⟩
    · exact .inr (.inl ⟨_, _, q⟩)
    · exact .inr (.inr q)
    · exact .inl q
  refine codeAny_mono (F _ kUp (nsUp hns) tb callerA [] s₁ H ⟨[.ref a], []⟩ [.ref a] [.ref a] _ _ rfl hr e0 (hbind s₁ (.ref a)) (.cons rfl .nil) (hsp H ofTab st hS)) fun r s' h => ?_
  match r, h with
  | .error e, h => exact False.elim h
  | .ok .next, h => exact False.elim h
  | .ok .brk, h => exact False.elim h
  | .ok .cont, h => exact False.elim h
  | .ok (.ret u), h =>
    obtain ⟨v, H', os, bare, un, hok', r', q⟩ := h
    obtain rfl : v = .bl true := q
    obtain rfl : u = Value.bool true := r'
    -- what became of each object
    have now : ∀ b o, s₁.heap.get? b = some o → (b ∉ ts ∧ s'.heap.get? b = some o) ∨ ∃ more : Array Value, b ∈ ts ∧ s'.heap.get? b = some { cls := .none, data := .fields more } := fun b o e => by
      rcases look b with ⟨z, _, q⟩ | ⟨z, q⟩ | ⟨q, z, _⟩
      · obtain ⟨e2, _⟩ := hok' b _ (un.frzs b O _ q)
        rw [z, ha] at e
        cases e
        exact .inl ⟨z ▸ an, e2⟩
      · obtain ⟨more, z2⟩ := un.tbls b #[] q
        exact .inr ⟨_, z, hok' b _ z2⟩
      · exact .inl ⟨z, un.keep b o e q (by intro y; exact absurd (show b ∈ ([] : List Addr) from y) (by simp)) (by simp)⟩
    refine ⟨rfl, ⟨fun b o e => ?_, fun b o e => ?_⟩, os, bare⟩
    · rcases now b o e with ⟨_, y⟩ | ⟨more, z, y⟩
      · exact .inl y
      · obtain ⟨p, hp, rfl⟩ := List.mem_map.mp z
        rw [hT p hp] at e
        cases e
        exact .inr (.inl ⟨((C p hp).tab (hT p hp)).isCodeTable, rfl, #[], more, rfl, by rw [Array.empty_append]; exact y⟩)
    · rcases now b o e with ⟨_, y⟩ | ⟨more, _, y⟩
      · exact ⟨o, y⟩
      · exact ⟨_, y⟩
end
/-! ### the law -/
/-- what is known of the law's promise at the head's heap h -/
def LawG (l : PySem.W.OpenLaw) (w : World) (K : PySem.W.Frag) (k n : Nat) (x : Str) (mg : Str → Option Value) (fa : Addr) (h : Heap) : Prop :=
  ∃ (fd : FuncData) (cs : List (Addr × Addr)) (sp : Sp), (∀ p ∈ cs, h.get? p.2 = some { cls := .none, data := .fields #[] }) ∧ (∀ p ∈ cs, K.lookup p.2 = none) ∧ (∀ p ∈ cs, PySem.W.CodeHd h p.1 p.2) ∧ (∀ (s : Shared) (u : Value), BindsTo s fd ⟨[u], []⟩ [(x, u)]) ∧
    (∀ (H : Hp) (a : Addr) (ns : List Int), ns.length ≤ n → (∀ z ∈ ns, Builtin.Int.intBits z ≤ 1048576) → (∀ p ∈ cs, H p.2 = some (.tbl #[])) → (∀ b, H b = none ∨ (∃ o xs, H b = some (.frz o (.lst xs))) ∨ H b = some (.tbl #[])) → SqL K H a (ns.map V.int) → sp [.ref a] H (fun v _ => v = .bl true) fun _ _ _ => False) ∧
    ∀ base : Heap, K.In base → base.Ns mainGlobals mg → (∀ p ∈ cs, LamX.TabB base mg p.1 p.2) → FnG l.prog w K mg base k fa fd [x] sp
theorem walk_ofG {l : PySem.W.OpenLaw} {n k : Nat} {q : Program} {loose : List Str} {XP : (Str → Option Value) → Heap → Prop} {YP : World → Heap → Prop} {d : DefRec} {x : Str}
    (hn : l.most = some n) (hn2 : n ≤ sizeLine) (hdf : d.params.defaults = []) (hr : Room k callerA)
    (F : ∀ (w : World) (mg : Str → Option Value) (fa : Addr) (h : Heap), YP w h → h.Ns mainGlobals mg → mg d.name = some (.ref fa) → ∃ K : PySem.W.Frag, K.In h ∧ LawG l w K k n x mg fa h) :
    PySem.W.WalkO q loose XP YP l.row.toRowW d [] (fun f vs => PySem.call f vs) := by
  refine Att.attach_callB hn hdf fun w s₀ s₁ mg mb fa o pm cd doc a vs ns G Y ho hd hcd hmg hobj hints hlen hbits hg => ?_
  obtain ⟨K, KX, fd, cs, sp, hT, nT, C, hb, hsp, hF⟩ := F w mg fa _ Y G.T.g hmg
  exact law_callG KX G.T.g G.T.b G.T.builtins G.T.nolimit hg hT nT C G.T.bmain hobj hints (Nat.le_trans hlen hn2) hr hF hb (fun H hH hst hS => hsp H a ns hlen hbits hH hst hS)
/-! ### from the head's facts -/
theorem lam_code {K : PySem.W.Frag} {x qual : Str} {params : Arguments} {body : List Stmt} {scope : Scope} {dvs : List V} {kws : List (Str × V)} {p : Str × Option Str} {fd : FuncData} (F : FunD K x qual params body scope dvs kws (He.fAd K p) fd) :
    ∀ (fd2 : FuncData) (oc : Value) (od : Option Addr) (osl : Array (Option Value)), K.lookup (He.fAd K p) = some ⟨oc, od, .func fd2, osl⟩ → fd2.code = .ref (He.codeOf K p) := by
  obtain ⟨oc, od, dV, kV, doc, pm, an, cdv, ct, osl, rfl, lk, hcd, _, _⟩ := F.ex
  obtain ⟨c, rfl⟩ := He.codeIn_ref hcd
  intro fd2 oc2 od2 osl2 lk2
  rw [lk] at lk2
  cases lk2
  rw [He.codeOf_eq lk rfl]
theorem tabs_start {H : Hp} {T : List (Addr × Str)} (h : ∀ p ∈ T, H p.1 = some (.tbl #[])) : LamX.Tabs T H := fun p hp => ⟨#[], h p hp, trivial, fun _ _ e => by cases e⟩
theorem Vals.getD {vs : List V} {us : List Value} (r : Vals vs us) (i : Nat) : RelV (vs.getD i .non) (us.getD i .none) := by
  cases h : vs[i]? with
  | none =>
    have h2 : us[i]? = none := by
      rw [List.getElem?_eq_none_iff] at h ⊢
      rw [← r.length]
      exact h
    rw [List.getD_eq_getElem?_getD, List.getD_eq_getElem?_getD, h, h2]
    rfl
  | some v =>
    obtain ⟨u, hu, ru⟩ := r.get h
    rw [List.getD_eq_getElem?_getD, List.getD_eq_getElem?_getD, h, hu]
    exact ru
/-- keywords, no defaults -/
theorem kbn_of {K : PySem.W.Frag} {x qual : Str} {params : Arguments} {body : List Stmt} {scope : Scope} {f : Addr} {fd : FuncData} {ps ks : List Str} {n : Nat} {g : List Value → List Value → List Value} {gV : List V → List V → List V} (F : FunD K x qual params body scope [] [] f fd)
    (h : ∀ (kV doc pm : Value) (an : Option Addr) (cdv ct : Value) (us ws : List Value), us.length = n → ws.length = ks.length → bindArgs (PySem.W.fnOf x qual params body scope .none kV doc pm an cdv ct) ⟨us, ks.zip ws⟩ = pure (ps.zip (g us ws)))
    (rel : ∀ {vs : List V} {us : List Value} {zs : List V} {ws : List Value}, Vals vs us → Vals zs ws → Vals (gV vs zs) (g us ws)) : KBn K fd ps n ks g gV := by
  obtain ⟨oc, od, dV, kV, doc, pm, an, cdv, ct, osl, rfl, lk, hcd, hD, hK⟩ := F.ex
  rcases hD with ⟨_, rfl⟩ | ⟨e, _⟩
  · exact ⟨fun s us ws _ l1 l2 => .of_eq (h kV doc pm an cdv ct us ws l1 l2), rel⟩
  · exact absurd rfl e
/-- the same for a def with defaults: each parameter is given -/
theorem kbn_ofD {K : PySem.W.Frag} {x qual : Str} {params : Arguments} {body : List Stmt} {scope : Scope} {dvs : List V} {f : Addr} {fd : FuncData} {ps ks : List Str} {n : Nat} {g : List Value → List Value → List Value} {gV : List V → List V → List V} (F : FunD K x qual params body scope dvs [] f fd) (hd : dvs ≠ [])
    (h : ∀ (T : Addr) (kV doc pm : Value) (an : Option Addr) (cdv ct : Value) (us its ws : List Value), us.length = n → its.length = dvs.length → ws.length = ks.length →
      ∃ k, bindArgs (PySem.W.fnOf x qual params body scope (.ref T) kV doc pm an cdv ct) ⟨us, ks.zip ws⟩ = seqItems? (.ref T) >>= k ∧ k (some its.toArray) = pure (ps.zip (g us ws)))
    (rel : ∀ {vs : List V} {us : List Value} {zs : List V} {ws : List Value}, Vals vs us → Vals zs ws → Vals (gV vs zs) (g us ws)) : KBn K fd ps n ks g gV := by
  obtain ⟨oc, od, dV, kV, doc, pm, an, cdv, ct, osl, rfl, lk, hcd, hD, hK⟩ := F.ex
  rcases hD with ⟨e, _⟩ | ⟨_, T, o, its, m, rfl, lT, oT, rT⟩
  · exact absurd e hd
  · refine ⟨fun s us ws X l1 l2 => ?_, rel⟩
    obtain ⟨k, e1, e2⟩ := h T kV doc pm an cdv ct us its ws l1 rT.length.symm l2
    refine BindsTo.of_looks fun M => ?_
    rw [e1]
    exact looks_items X lT oT (.of_pure e2)
end Sk
/-! a call of an own function whose promise holds where no repr is under way -/
namespace Sk
open PySem PySem.Spec PyProof.Rows L2
structure FnGx (P : Program) (w : World) (K : PySem.W.Frag) (mg : Str → Option Value) (base : Heap) (x : Str) (k : Nat) (ps : List Str) (sp : Sp) : Prop where
  ex : ∃ (f : Addr) (fd : FuncData), FnG P w K mg base k f fd ps sp ∧ (∀ vs H Q E, sp vs H Q E → vs.length = ps.length) ∧ mg x = some (.ref f) ∧ PySem.W.keepIn K (.ref f) = true ∧ Binds K fd ps []
section
variable {X : Cx} {x : Str} {k : Nat} {ps : List Str} {sp : Sp} {e : Expr} {es : List Expr} {t : TA} {p pos : Pos}
theorem pe_fnG (F : FnGx X.prog X.w X.K X.mg X.base x k ps sp) (hgd : X.A.guards = some []) (hr : Room k X.A) (ha : PA X (e :: es) t) (hg : Gl X x := by rfl) (hdb : (x == ("__debug__" : Str)) = false := by decide)
    (he : starEach (e :: es) X.env = (false, eval e X.env) :: starEach es X.env := by rfl) (hpl : (backTo pos (starEach es X.env)).any (·.1) = false := by rfl) : PE X (.Call (.Name x p) (e :: es) [] pos) (tCall sp [] E0 t) := by
  obtain ⟨f, fd, F1, hlen, hm, hk, hb⟩ := F.ex
  refine ⟨fun pins s σ H Q I h => ?_⟩
  refine wpAny_Call_Name_kw (ld_glob I hg hm ?_ hdb)
  refine PySem.W.callWith_K (h₀ := X.base) I.ok.mod.kin hk (thn (ha.run pos pins s σ H _ I h) fun us s1 ⟨vs, H1, I1, r, q⟩ => ⟨I1.kIn, ?_⟩) he hpl
  have r2 : Vals (vs ++ []) (us ++ []) := r.append .nil
  have hl : (us ++ []).length = ps.length := by rw [← r2.length]; exact hlen _ _ _ _ q
  refine wpAny_call (codeAny_mono (F1 X.A X.stack s1 H1 ⟨us, []⟩ (us ++ []) (vs ++ []) Q E0 hgd hr I1.env0 (hb s1 us I1.kIn hl) r2 q) fun r s' hq => ?_)
  cases r with
  | error e => exact (pass0 : Passes CX0 X E0) pins σ H1 s1 e s' I1 hq
  | ok fl =>
    cases fl with
    | ret u => exact I1.after hq
    | next => exact False.elim hq
    | brk => exact False.elim hq
    | cont => exact False.elim hq
end
end Sk
/-! d[k] as a part of a target -/
namespace Sk
open PySem PySem.Spec PyProof.Rows L2
def sSetD : TSet := fun o i v H Q => ∃ a H4, o = .ref a ∧ DPut H a i v H4 ∧ Q H4
theorem set_dict {X : Cx} (hu : X.A.units + 1 < cLine) : PSet X sSetD := by
  intro pins s σ H o i v ov iv u Q I ro ri rv h
  obtain ⟨a, H4, rfl, g, q⟩ := h
  obtain rfl : ov = Value.ref a := ro
  exact d_setItem hu I g ri rv fun s4 I4 => ⟨H4, I4, q⟩
/-! ### how often a truth value stands in a list -/
def isB (k : Bool) : Value → Bool
  | .bool b => b == k
  | _ => false
theorem bools_of : ∀ {bs : List Bool} {its : List Value}, Vals (bs.map V.bl) its → its = bs.map Value.bool
  | [], _, .nil => rfl
  | b :: bs, _, .cons h t => by
    rw [List.map_cons, ← bools_of t]
    congr 1
theorem isB_count (k : Bool) : ∀ bs : List Bool, (bs.map Value.bool).countP (isB k) = bs.count k
  | [] => rfl
  | b :: bs => by
    rw [List.map_cons, List.countP_cons, List.count_cons, isB_count k bs]
    rfl
def rCntB (K : PySem.W.Frag) : V → List V → Hp → VK → Prop := fun x xs H Q => ∃ (p : Addr) (bs : List Bool) (k : Bool), x = .ref p ∧ xs = [.bl k] ∧ SqL K H p (bs.map V.bl) ∧ Q (.int (bs.count k : Nat)) H
theorem mt_cntB {X : Cx} : MtR X "list.count" (rCntB X.K) := by
  intro pins s σ H x xs v us Q I rx rxs h
  obtain ⟨p, bs, k, rfl, rfl, hs, q⟩ := h
  cases rx
  obtain ⟨u, rfl, ru⟩ := rxs.one
  cases (show u = Value.bool k from ru)
  obtain ⟨its, rv, ⟨⟨cls, dd, data, sl⟩, n, ho, hc, hdn, hd⟩, hlen⟩ := I.list hs
  simp only at hc hd
  subst hc hd
  have hi := bools_of rv
  subst hi
  refine call_meets PySem.F.slot_list_count ⟨_, ho, rfl⟩ PySem.F.entry_list_count (PySem.F.args_list_count_2 _ _)
    (SeqAt.list_countAt p (bs.map Value.bool).toArray n dd sl (.bool k) (isB k)) ⟨ho, fun y hy => ?_, ?_⟩
  · have hy : y ∈ bs.map Value.bool := by simpa using hy
    obtain ⟨b, _, rfl⟩ := List.mem_map.mp hy
    exact SeqAt.EqAt.bool_bool b k
  have ec : (bs.map Value.bool).toArray.toList.countP (isB k) = bs.count k := isB_count k bs
  refine ⟨.int (bs.count k : Nat), H, I.tok _, ⟨s.toks, ?_⟩, q⟩
  show Value.int ((((bs.map Value.bool).toArray.toList.countP (isB k) : Nat)) : Int) s.toks = Value.int ((bs.count k : Nat) : Int) s.toks
  rw [ec]
end Sk
/-! own exceptions over an own base class: made, raised, caught, held -/
namespace Sk
open PySem PySem.Spec PyProof.Rows L2
/-! ### what K says of such a class -/
structure XcB (K : PySem.W.Frag) (C : Addr) : Prop where
  ox : OexC K C
  xf : XfC K C
  ha : PySem.W.findIn K (.ref C) "__class__" = some (some (.builtin "object.__class__"))
  hn : PySem.W.specialIn K (.builtin "object.__class__") "__get__" = some (some (.builtin "getset_descriptor.__get__"))
  ht : PySem.W.takesIn K (.builtin "object.__class__") = some true
  hm : PySem.W.mroIn K C (.type "object") = some true
  nv : PySem.W.findIn K (.ref C) "value" = some none
  fi : PySem.W.findIn K (.ref C) "__init__" = some (some (.ref (He.ma K C "__init__")))
  ti : PySem.W.typeIn K (.ref (He.ma K C "__init__")) = some (.type "function")
def xcObj (K : PySem.W.Frag) (C : Addr) : Bool :=
  match K.lookup C with
  | some ⟨.type t, _, .cls cd, sl⟩ =>
    (match cd.mro, sl.toList with
    | .ref C2 :: tl, [_, _, _, _, some (.builtin nw), _] => decide (t = "type") && (decide (C2 = C) && (decide (nw = "ValueError.__new__") && (!cd.hasDel && (cd.hasDict && PySem.HandSPX.refsVE tl))))
    | _, _ => false)
  | _ => false
theorem xcObj_ok {K : PySem.W.Frag} {C : Addr} (z : xcObj K C = true) : ∃ nm q N bs bm sn sub ab col dd k0 k1 k2 k3 k5, K.lookup C = some (excClassObj nm q C N bs bm true sn sub ab col dd k0 k1 k2 k3 k5 "ValueError.__new__") ∧ PySem.HandSPX.refsVE bm = true := by
  unfold xcObj at z
  split at z
  · rename_i t dd cd sl ho
    split at z
    · rename_i C2 tl k0 k1 k2 k3 nw k5 em es
      simp only [Bool.and_eq_true, decide_eq_true_eq, Bool.not_eq_true'] at z
      obtain ⟨e0, e1, e2, e3, e4, e5⟩ := z
      obtain ⟨l⟩ := sl
      have es' : l = [k0, k1, k2, k3, some (.builtin nw), k5] := es
      obtain ⟨nm, bs, mro, ns, qn, hd, sn, sub, ab, col, del⟩ := cd
      have em' : mro = .ref C2 :: tl := em
      have e3' : del = false := e3
      have e4' : hd = true := e4
      subst es' em' e3' e4' e0 e1 e2
      exact ⟨nm, qn, ns, bs, tl, sn, sub, ab, col, dd, k0, k1, k2, k3, k5, ho, e5⟩
    · cases z
  · cases z
def xcB (K : PySem.W.Frag) (C : Addr) : Bool :=
  xcObj K C && (decide (PySem.W.findIn K (.ref C) "__setattr__" = some (some (.builtin "object.__setattr__"))) && (decide (PySem.W.typeIn K (.ref C) = some (.type "type")) && (PySem.W.keepIn K (.ref C) && (xfB K C &&
  (decide (PySem.W.findIn K (.ref C) "__class__" = some (some (.builtin "object.__class__"))) && (decide (PySem.W.specialIn K (.builtin "object.__class__") "__get__" = some (some (.builtin "getset_descriptor.__get__"))) &&
  (decide (PySem.W.takesIn K (.builtin "object.__class__") = some true) && (decide (PySem.W.mroIn K C (.type "object") = some true) && (decide (PySem.W.findIn K (.ref C) "value" = some none) &&
  (decide (PySem.W.findIn K (.ref C) "__init__" = some (some (.ref (He.ma K C "__init__")))) && decide (PySem.W.typeIn K (.ref (He.ma K C "__init__")) = some (.type "function"))))))))))))
theorem xcB_ok {K : PySem.W.Frag} {C : Addr} (z : xcB K C = true) : XcB K C := by
  unfold xcB at z
  simp only [Bool.and_eq_true, decide_eq_true_eq] at z
  obtain ⟨z1, z2, z3, z4, z5, z6, z7, z8, z9, z10, z11, z12⟩ := z
  have xf := xfB_ok z5
  exact ⟨⟨xcObj_ok z1, z2, xf.exC, z3, z4⟩, xf, z6, z7, z8, z9, z10, z11, z12⟩
/-- the base class: its __init__ is ValueError's -/
structure SbB (K : PySem.W.Frag) (B : Addr) : Prop where
  rd : ClX.CRead K B (.type "type")
  at_ : PySem.W.findCls K (.ref B) (.type "type") "__init__" = some (.val (.builtin "ValueError.__init__"))
def sbB (K : PySem.W.Frag) (B : Addr) : Bool :=
  PySem.W.readsIn K B (.type "type") && (decide (PySem.W.specialIn K (.ref B) "__getattribute__" = some (some (.builtin "type.__getattribute__"))) && (match PySem.W.findCls K (.ref B) (.type "type") "__init__" with
  | some (.val (.builtin n)) => decide (n = "ValueError.__init__")
  | _ => false))
theorem sbB_ok {K : PySem.W.Frag} {B : Addr} (z : sbB K B = true) : SbB K B := by
  unfold sbB at z
  simp only [Bool.and_eq_true, decide_eq_true_eq] at z
  obtain ⟨z1, z2, z3⟩ := z
  refine ⟨⟨z1, z2⟩, ?_⟩
  split at z3
  · rename_i n e
    rw [e, of_decide_eq_true z3]
  · cases z3
/-- what isinstance asks of such a class -/
structure XfC' (K : PySem.W.Frag) (D : Addr) : Prop where
  hg : PySem.W.findIn K (.ref D) "__getattribute__" = some (some (.builtin "BaseException.__getattribute__"))
  hk : PySem.W.findIn K (.ref D) "__getattr__" = some none
  hs : PySem.W.subIn K (.ref D) (.type "BaseException") = some true
  hd : PySem.W.hasDictIn K D = true
  ha : PySem.W.findIn K (.ref D) "__class__" = some (some (.builtin "object.__class__"))
  hn : PySem.W.specialIn K (.builtin "object.__class__") "__get__" = some (some (.builtin "getset_descriptor.__get__"))
  ht : PySem.W.takesIn K (.builtin "object.__class__") = some true
  hm : PySem.W.mroIn K D (.type "object") = some true
theorem XcB.is {K : PySem.W.Frag} {C : Addr} (b : XcB K C) : XfC' K C := ⟨b.xf.ga, b.xf.gg, b.xf.exC, b.xf.hdC, b.ha, b.hn, b.ht, b.hm⟩
/-! ### B.__init__(self, ..) -/
section
variable {X : Cx} {b : Str} {B : Addr} {e : Expr} {es : List Expr} {ta : TA} {p1 p2 pos : Pos}
theorem pe_obinit {pl : Sem Bool} (S : SbB X.K B) (hm : X.mg b = some (.ref B)) (ha : PA X (e :: es) ta) (hg : Gl X b := by rfl) (hdb : (b == ("__debug__" : Str)) = false := by decide)
    (hc : eval (.Call (.Attribute (.Name b p1) "__init__" p2) (e :: es) [] pos) X.env = (do
      let ov ← eval (.Name b p1) X.env
      standAt p2.atName
      let (f, first) ← holding [ov] (getMethod ov "__init__" pl)
      callWith pos f first (backTo pos (starEach (e :: es) X.env)) (backToKw pos (keywordEach [] X.env))) := by rfl)
    (he : starEach (e :: es) X.env = (false, eval e X.env) :: starEach es X.env := by rfl) (hpl : (backTo pos (starEach es X.env)).any (·.1) = false := by rfl) :
    PE X (.Call (.Attribute (.Name b p1) "__init__" p2) (e :: es) [] pos) (tVeI X.K ta) := by
  refine ⟨fun pins s σ H Q I h => ?_⟩
  refine PySem.W.methodCall_KW (ld_glob I hg hm ?_ hdb) hc
  refine PySem.W.method_cls I.kIn S.rd.ga (PySem.W.cls_value I.kIn S.rd.rd S.at_ (by decide +kernel) ?_)
  show wpAny _ _ (callWith pos (Value.builtin "ValueError.__init__") [] (backTo pos (starEach (e :: es) X.env)) []) _ _ _
  refine PyProof.Rows.callWith_method1 (thn (ha.run pos pins _ σ H _ (I.tok _) h) fun us s1 hh => ?_) he hpl
  obtain ⟨vs, H1, I1, r1, a, C, ws, ev, hl, T, ea, q⟩ := hh
  subst ev
  cases r1 with
  | @cons _ u0 _ ur ra rw' =>
    obtain rfl : u0 = Value.ref a := ra
    refine oinit_ok T I1 ea ?_ fun s' J => ⟨.non, H1, J, rfl, q⟩
    rw [← Paired.length rw', sizeLine_eq]
    omega
end
/-! ### X(v) -/
/-- what X.__init__ keeps -/
def xinit (C : Addr) : Sp := fun vs H Q _ => ∃ (a : Addr) (v : V), vs = [.ref a, v] ∧ H a = some (exo a C none) ∧ ∀ d, H d = none → d ≠ a → Q .non (upd (upd H d (exd d [("value", v)])) a (exo a C (some d)))
def xkV (vs zs : List V) : List V := [vs.getD 0 .non, zs.getD 0 .non]
/-- an own exception class of the program -/
structure Xc (P : Program) (w : World) (K : PySem.W.Frag) (mg : Str → Option Value) (base : Heap) (x : Str) : Prop where
  b : XcB K (He.ga K x)
  hm : mg x = some (.ref (He.ga K x))
  fn : ∃ (fd : FuncData) (g : List Value → List Value → List Value), FnOk P w K mg base CX0 1 (He.ma K (He.ga K x) "__init__") fd ["self", "value"] (xinit (He.ga K x)) ∧ Binds K fd ["self", "value"] [] ∧ KBn K fd ["self", "value"] 1 ["value"] g xkV
theorem xr_of {H : Hp} {a C : Addr} {v : V} {Q : XK} (n : H a = none) (k : ∀ d, H d = none → Q (.ref C) (some d) (upd H d (.xd [("value", v)]))) :
    xinit C [.ref a, v] (upd H a (exo a C none)) (fun u H2 => u = .non ∧ ∃ (d : Addr) (fs : List (Str × V)), H2 a = some (exo a C (some d)) ∧ H2 d = some (exd d fs) ∧ H d = none ∧ Q (.ref C) (some d) (upd (L2.del H2 a) d (.xd fs))) E0 := by
  refine ⟨a, v, rfl, upd_same, fun d hd nd => ⟨rfl, d, [("value", v)], upd_same, ?_, ?_, ?_⟩⟩
  · rw [upd_ne nd, upd_same]
  · rwa [upd_ne nd] at hd
  · have hd' : H d = none := by rwa [upd_ne nd] at hd
    have e : upd (L2.del (upd (upd (upd H a (exo a C none)) d (exd d [("value", v)])) a (exo a C (some d))) a) d (.xd [("value", v)]) = upd H d (.xd [("value", v)]) := by
      funext y
      by_cases y1 : y = d
      · rw [y1, upd_same, upd_same]
      · rw [upd_ne y1, upd_ne y1]
        by_cases y2 : y = a
        · rw [y2, L2.del_same, n]
        · rw [L2.del_ne y2, upd_ne y2, upd_ne y1, upd_ne y2]
    rw [e]
    exact k d hd'
/-- X(v): the reading -/
def tXc (K : PySem.W.Frag) (x : Str) (t : TA) : L2.St → Hp → XK → Prop := fun σ H Q => t σ H fun vs H1 => ∃ v, vs = [v] ∧ ∀ d, H1 d = none → Q (.ref (He.ga K x)) (some d) (upd H1 d (.xd [("value", v)]))
section
variable {X : Cx} {x : Str} {e : Expr} {es : List Expr} {kws : List Keyword} {t : TA} {p pos : Pos}
/-- the class is called: us the positional values, kw the keywords -/
theorem run_xc {pins : List (Addr × Obj)} {σ : L2.St} {H1 : Hp} {s : Shared} {Q : XK} {us : List Value} {v : V} {u : Value} (G : Xc X.prog X.w X.K X.mg X.base x) (hr : Room 2 X.A) (I1 : Inv X pins σ H1 s) (r : RelV v u)
    (q1 : ∀ d, H1 d = none → Q (.ref (He.ga X.K x)) (some d) (upd H1 d (.xd [("value", v)]))) : wpAny (model X.prog X.w) X.A (call (.ref (He.ga X.K x)) [u]) (fun u s' => L2N.MkP X pins σ Q u s' ∧ L2H.Six u s') X.xe s := by
  obtain ⟨fd, gk, F1, hb, _⟩ := G.fn
  obtain ⟨nm, q, N, bs, bm, sn, sub, ab, col, dd, k0, k1, k2, k3, k5, hC, hbm⟩ := G.b.ox.cls
  obtain ⟨hp, g, dr, tk, os⟩ := s
  let a : Addr := hp.objs.size + 1
  have hsz : hp.objs.size ≤ a := Nat.le_succ _
  have hn : H1 a = none := I1.hok.fresh hsz
  have kk : ∀ b o, hp.get? b = some o → ((hp.push (PySem.W.kdv_tup [u])).push (PySem.HandSPX.excO (He.ga X.K x) hp.objs.size)).get? b = some o := fun b o z => Heap.get?_push_of_some _ (Heap.get?_push_of_some _ z)
  have hget : ((hp.push (PySem.W.kdv_tup [u])).push (PySem.HandSPX.excO (He.ga X.K x) hp.objs.size)).get? a = some (PySem.HandSPX.excO (He.ga X.K x) hp.objs.size) := by
    show ((hp.push (PySem.W.kdv_tup [u])).push (PySem.HandSPX.excO (He.ga X.K x) hp.objs.size)).get? (hp.objs.size + 1) = _
    heap_get
  have I2 := I1.laid (t' := tk) (a := a) (o := exo a (He.ga X.K x) none) (h' := (hp.push (PySem.W.kdv_tup [u])).push (PySem.HandSPX.excO (He.ga X.K x) hp.objs.size)) kk hsz (exo_ok hget)
  have r2 : Vals [V.ref a, v] [Value.ref a, u] := .cons rfl (.cons r .nil)
  have hq := xr_of (C := He.ga X.K x) hn q1
  refine wpAny_call (PySem.HandSPX.call_own F.excBase_ValueError (fun Y => PySem.HandSPX.refsVE_contains Y bm hbm) (I1.kIn _ _ hC) (PySem.W.looks_findIn I1.kIn G.b.fi) (fun self => PySem.W.bind_fn I1.kIn self G.b.ti) (by show 1 ≤ sizeLine; decide)
    (codeAny_mono (F1.run _ X.stack _ _ ⟨[Value.ref a, u], []⟩ [Value.ref a, u] _ _ E0 (hr.make (He.ga X.K x) [u] []) (I2.env0.make (He.ga X.K x) [u] []) (by
      have := hb _ [Value.ref a, u] I2.kIn rfl
      simpa using this) r2 hq) fun r s' hq' => ?_))
  cases r with
  | error er => exact (pass0 : Passes CX0 X E0) pins σ _ _ er s' I2 hq'
  | ok fl =>
    cases fl with
    | ret u =>
      obtain ⟨v, H2, os2, bare2, un2, hok2, rv, ev, d, fs, ea, ed, hd1, q2⟩ := hq'
      subst ev
      obtain ⟨h2, g2, d2, t2, os'⟩ := s'
      obtain ⟨t0, Gh, J, kG, ge, hoe, na⟩ := mk_end0 (d2 := d2) (t2 := t2) I1 hsz kk un2 hok2 os2 bare2 ea ed hd1
      refine ⟨rv, ⟨hp.objs.size + 1, _, _, ⟨Gh, g2, d2, t2, os'⟩, _, .ref (He.ga X.K x), some d, rfl, J, kG, ge, hoe, ⟨rfl, rfl, fun vs hv => ?_⟩, rfl, rfl, na, rfl, bare2, raises_own G.b.ox.exC G.b.ox.tyC, q2⟩, fun a oe vs ea2 hg2 hd2 => ?_⟩
      · cases hv
        rfl
      · cases ea2
        have hg3 : h2.get? (hp.objs.size + 1) = some oe := hg2
        rw [hoe] at hg3
        cases hg3
        cases hd2
        show (4 : Nat) < 6
        decide
    | next => exact False.elim hq'
    | brk => exact False.elim hq'
    | cont => exact False.elim hq'
theorem pmk5_xc (G : Xc X.prog X.w X.K X.mg X.base x) (hr : Room 2 X.A) (ha : PA X [e] t) (hg : Gl X x := by rfl) (hdb : (x == ("__debug__" : Str)) = false := by decide)
    (he : starEach [e] X.env = (false, eval e X.env) :: starEach [] X.env := by rfl) (hpl : (backTo pos (starEach [] X.env)).any (·.1) = false := by rfl) : L2H.PMk5 X (.Call (.Name x p) [e] [] pos) (tXc X.K x t) := by
  intro pins s σ H Q I h
  refine wpAny_Call_Name_kw (ld_glob I hg G.hm ?_ hdb)
  refine PySem.W.callWith_K (h₀ := X.base) I.ok.mod.kin G.b.ox.kC (thn (ha.run pos pins s σ H _ I h) fun us s1 hh => ?_) he hpl
  obtain ⟨vs, H1, I1, r1, v, rfl, q1⟩ := hh
  obtain ⟨u, rfl, ru⟩ : ∃ u, us = [u] ∧ RelV v u := by
    cases r1 with
    | cons r0 rr =>
      cases rr
      exact ⟨_, rfl, r0⟩
  exact ⟨I1.kIn, run_xc (us := [u]) G hr I1 ru q1⟩
theorem pmk_xc (G : Xc X.prog X.w X.K X.mg X.base x) (hr : Room 2 X.A) (ha : PA X [e] t) (hg : Gl X x := by rfl) (hdb : (x == ("__debug__" : Str)) = false := by decide)
    (he : starEach [e] X.env = (false, eval e X.env) :: starEach [] X.env := by rfl) (hpl : (backTo pos (starEach [] X.env)).any (·.1) = false := by rfl) : L2N.PMk X (.Call (.Name x p) [e] [] pos) (tXc X.K x t) := (pmk5_xc G hr ha hg hdb he hpl).pmk
end
/-! ### an exception as a value -/
/-- an exception of the class cls, its dict at d, stands at a -/
def exT (a : Addr) (cls : Value) (d : Option Addr) : HO := .ext fun h => ∃ (oe : Obj) (vs : Array Value), h.get? a = some oe ∧ L2N.Zn cls d oe ∧ oe.data = .fields vs
theorem exT_ok {P : Program} {w : World} {H : Hp} {h : Heap} {a : Addr} {cls : Value} {d : Option Addr} {oe : Obj} {vs : Array Value} (z1 : h.get? a = some oe) (z2 : L2N.Zn cls d oe) (z3 : oe.data = .fields vs) : ObjOk P w H h a (exT a cls d) :=
  ⟨⟨oe, vs, z1, z2, z3⟩, ⟨oe, z1⟩, fun _ _ ⟨o, v, q1, q2⟩ k => ⟨o, v, k o q1, q2⟩⟩
theorem exT_at {P : Program} {w : World} {H : Hp} {h : Heap} {a : Addr} {cls : Value} {d : Option Addr} (hok : HOk P w H h) (z : H a = some (exT a cls d)) : ∃ (oe : Obj) (vs : Array Value), h.get? a = some oe ∧ L2N.Zn cls d oe ∧ oe.data = .fields vs := by
  have y : ObjOk P w H h a (.ext fun h => ∃ (oe : Obj) (vs : Array Value), h.get? a = some oe ∧ L2N.Zn cls d oe ∧ oe.data = .fields vs) := hok a _ z
  exact y.1
theorem exT_ntb {a : Addr} {cls : Value} {d : Option Addr} : ∀ ps, exT a cls d ≠ .tbl ps := fun ps z => by
  have z' : HO.ext _ = HO.tbl ps := z
  cases z'
section
variable {X : Cx} {x : Str} {e : Expr} {t : TA}
theorem pe_ofMk {tm : L2.St → Hp → XK → Prop} (h : L2N.PMk X e tm) : PE X e (fun σ H Q => tm σ H fun cls d H1 => ∀ a, H1 a = none → Q (.ref a) (upd H1 a (exT a cls d))) := by
  refine ⟨fun pins s σ H Q I hq => wpAny_mono (h pins s σ H _ I hq) (fun u s1 hu => ?_) fun _ _ z => z⟩
  obtain ⟨a, oe, vs, sI, H1, cls, d, rfl, J, k, hne, ha, hz, hd, h1, na, os, ag, r, q⟩ := hu
  obtain ⟨h0, g0, d0, t0, os0⟩ := s1
  have J2 := J.call (ch := []) (h' := h0) (g' := g0) (d' := d0) (t' := t0) (H' := upd H1 a (exT a cls d))
    ⟨fun b o z _ _ _ => k b o z, fun b o z _ _ _ => ⟨o.slots, k b o z⟩, fun b o z n _ => by
      rw [upd_ne (fun y => by rw [y, hne] at z; cases z)]
      exact n, fun b o z _ => ⟨o, k b o z⟩, fun b xs z => by
      rw [upd_ne (ne_of_none z na)]
      exact z, fun b o u z => by
      rw [upd_ne (ne_of_none z na)]
      exact z, fun b ps z => ⟨#[], by rw [upd_ne (ne_of_none z na), z]; simp⟩⟩
    (J.hok.laidN k na (exT_ok ha hz hd)) ag (fun b z => nomatch z)
  obtain rfl : os0 = sI.os := os
  exact ⟨.ref a, _, J2, rfl, q a na⟩
end
/-! ### an except suite where the exception is told of by the heap -/
abbrev suiteT (X : Cx) (a : Addr) (pn : List (Addr × Obj)) : Cx := { X with A := X.A.mark (some (.ref a)), calm := false, pn := pn, xe := fun _ _ => False }
theorem okT {X : Cx} (ok : X.Ok) (a : Addr) (pn : List (Addr × Obj)) : (suiteT X a pn).Ok :=
  ⟨ok.mod, ok.kind, ok.glob, ok.blt, ok.above, ok.inj, ok.has, ok.cab, (fun z => absurd (show false = true from z) Bool.false_ne_true), ok.frames, ok.stk, ok.exf, ok.bs, ok.bsz, ok.noex, ok.exfs, ok.funs, ok.frf⟩
section
variable {X : Cx} {pins pn' : List (Addr × Obj)} {σ : L2.St} {H : Hp} {s : Shared} {a : Addr}
theorem inv_suiteT (I : Inv X pins σ H s) (a : Addr) : Inv (suiteT X a (X.pn ++ pins)) [] σ H s :=
  ⟨okT I.ok _ _, I.os, I.bare, I.base, I.loc, I.cell, I.free, I.freeC, fun q hq => I.pin q (by rwa [List.append_nil] at hq), I.hok, I.len⟩
theorem inv_unsuiteT (I : Inv (suiteT X a (X.pn ++ pins)) pn' σ H s) (ok : X.Ok) : Inv X pins σ H s :=
  ⟨ok, I.os, I.bare, I.base, I.loc, I.cell, I.free, I.freeC, fun q hq => I.pin q (List.mem_append_left _ hq), I.hok, I.len⟩
end
/-- what 'except x as n' wishes: the suite's heap tells of the exception -/
def wAsT (K : PySem.W.Frag) (c : Value) (i : Nat) (ts : Addr → TS) (Wout : WX) (D : Ends) : WX := fun cls d σ H =>
  ∃ b, PySem.W.exmOne K cls c = some b ∧ (b = true → ∀ a, H a = none → ts a { nx := fun σ' H' => D.nx (σ'.set i none) H', rt := D.rt, bk := fun σ' H' => D.bk (σ'.set i none) H', ct := fun σ' H' => D.ct (σ'.set i none) H' } (σ.set i (some (.ref a))) (upd H a (exT a cls d))) ∧
    (b = false → Wout cls d σ H)
section
variable {X : Cx} {x n : Str} {c : Value} {i : Nat} {body suite : List Stmt} {b₀ : Stmt} {np pos pos' : Pos} {tb : WX → TS} {ts : Addr → TS} {Wout : WX}
theorem ps_try_asT (hs : X.stack = X.env :: X.outer) (hf : X.env.frame = some X.env.locals) (hN : X.N.Nodup) (hi : X.N[i]? = some n) (hln : X.env.kindOf n = some .local) (hc : Names X x c) (tk : L2N.Takes X Wout)
    (hb : ∀ (W : WX) (pn : List (Addr × Obj)) (xe : Value → Shared → Prop), L2N.Takes (X.tr pn xe) W → PassesOwn (model X.prog X.w) X.A X.env xe → PSs (X.tr pn xe) body (tb W))
    (hsu : ∀ (a : Addr) (pn : List (Addr × Obj)), PSs (suiteT X a pn) (b₀ :: suite) (ts a)) :
    PS X (.Try body [.ExceptHandler (some (.Name x np)) (some n) (b₀ :: suite) pos'] [] [] pos) (fun D σ H => tb (wAsT X.K c i ts Wout D) D σ H) := by
  refine ⟨fun pins s σ H D I h => ?_⟩
  have ok := I.ok
  have hfr : X.A.frames = some (X.env :: X.outer) := by rw [ok.frames, hs]
  have hloc : Loc X.env.scope n := .inl hln
  refine wpAny_Try_except ?_
  let xe2 : Value → Shared → Prop := fun e s₁ => wpAny (model X.prog X.w) X.A (noteFrame e X.env) (fun _ s₂ => wpAny (model X.prog X.w) X.A (setFlight e none) (fun _ s₃ => wpAny (model X.prog X.w) X.A (handleBy e X.env [.ExceptHandler (some (.Name x np)) (some n) (b₀ :: suite) pos']) (SP X pins D) X.xe s₃) X.xe s₂) X.xe s₁
  refine wpAny_mono ((hb (wAsT X.K c i ts Wout D) (X.pn ++ pins) xe2 (fun u s' xx => ?_) PassesOwn.looking).run [] s σ H D (I.toTry _) h) (fun f s1 hsp => ?_) (fun e s1 he => he)
  · obtain ⟨a, B, sI, pins', σ', H', cls, d, rfl, J', nb, up, sky, na, os, ag, b, hb1, hyes, hno⟩ := xx
    have J : Inv X pins σ' H' sI := J'.ofTry ok
    have sky' : Sky B (X.env :: X.outer) a (L2N.Zn cls d) X.env.locals s'.heap := by rw [← hs]; exact sky
    show wpAny (model X.prog X.w) X.A (noteFrame (.ref a) X.env) _ _ _
    refine L2N.Sky.land L2N.Zn.steady hfr hf sky' fun h3 fl3 up3 => ?_
    have J3 : Inv X pins σ' H' { s' with heap := h3 } := J.landed nb fl3.1 (up.trans up3) os ag
    obtain ⟨oe3, vs3, he3, hz3, hd3⟩ := fl3.there
    have nfr : a ∉ frs (X.env :: X.outer) := fun hm => by
      obtain ⟨_, o', e', hnf⟩ := fl3.2.2.1.mem hm
      rw [he3] at e'
      cases e'
      exact hnf _ hd3
    refine wpAny_handleBy_cons (codeAny_handlers_test ?_) (by intro q; cases q)
    have LT : PySem.W.Looks (model X.prog X.w) h3 (typeOf (.ref a)) cls := fun A Q E s k q => wpAny_typeOf_ref (k _ _ he3) (by rw [hz3.1]; exact q)
    have LM := PySem.W.exm_one (M := model X.prog X.w) (J3.kIn) LT hb1
    have S3 := inv_suiteT J3 a
    have test : ∀ {Q : Value → Shared → Prop} {E : Value → Shared → Prop}, Q c { s' with heap := h3 } → wpAny (model X.prog X.w) (X.A.mark (some (.ref a))) (eval (.Name x np) X.env) Q E { s' with heap := h3 } := fun {Q E} q => by
      obtain ⟨hg, hdbg, hm | ⟨hm, hv, hnn⟩⟩ := hc
      · exact ld_glob (X := suiteT X a (X.pn ++ pins)) S3 hg hm q hdbg
      · exact ld_blt (X := suiteT X a (X.pn ++ pins)) S3 hg hm hv q hnn hdbg
    refine test (LM.here ?_)
    cases b with
    | true =>
      refine codeAny_handlers_suite_as ?_
      refine HandSPX.lands_againZ fl3 fun h4 fl4 up4 => ?_
      obtain ⟨oe4, vs4, he4, hz4, hd4⟩ := fl4.there
      have hBa : B.get? a = none := fl4.2.1
      obtain ⟨G, g1, g2⟩ := restrict h4 fun b => decide (b ≠ a)
      have gk : ∀ b o, b ≠ a → h4.get? b = some o → G.get? b = some o := fun b o hb z => by
        rw [g1 b (decide_eq_true hb)]
        exact z
      have ga : G.get? a = none := g2 a (decide_eq_false fun z => z rfl)
      have gs : ∀ b o, G.get? b = some o → h4.get? b = some o := fun b o z => by
        by_cases hb : b = a
        · rw [hb, ga] at z
          cases z
        · rw [← g1 b (decide_eq_true hb)]
          exact z
      have naI : ∀ b o, sI.heap.get? b = some o → b ≠ a := fun b o z y => by
        have nf : b ∉ frs X.stack := by
          rw [y, hs]
          exact nfr
        have w := nb b o z nf
        rw [y, hBa] at w
        cases w
      have stG : B.StaysIn G := fun b o z => gk b o (fun y => by rw [y, hBa] at z; cases z) (fl4.1 b o z)
      have upG : sI.heap.UpToSlots G := fun b o z nf => by
        obtain ⟨sl, w⟩ := ((up.trans up3).trans up4) b o z nf
        exact ⟨sl, gk b _ (naI b o z) w⟩
      have JG : Inv X pins σ' H' { s' with heap := G } := J.landed (s' := { s' with heap := G }) nb stG upG os ag
      have J4 := JG.laidN (t' := s'.toks) (h' := h4) (o := exT a cls d) gs ga na (exT_ok he4 hz4 hd4)
      have S4 := inv_suiteT J4 a
      refine store_ok (X := suiteT X a (X.pn ++ pins)) (v := .ref a) S4 hN hi hloc rfl (fun s5 S5 => ?_) (.inr hln)
      refine wpAny_mono ((hsu a (X.pn ++ pins)).run [] s5 _ _ _ S5 (hyes rfl a na)) (fun f s6 hsp => ?_) (fun _ _ z => False.elim z)
      have end_ : ∀ {σ6 : L2.St} {H6 : Hp} {Q : Shared → Prop}, Inv (suiteT X a (X.pn ++ pins)) [] σ6 H6 s6 → (∀ s7, Inv X pins (σ6.set i none) H6 s7 → Q s7) →
          wpAny (model X.prog X.w) X.A (do bindName X.env n .none; unbindBehindTheSuite X.env n pos') (fun _ s7 => Q s7) X.xe s6 := fun {σ6 H6 Q} S6 hq => gone_ok (inv_unsuiteT S6 ok) hN hi hln hq
      cases f with
      | next =>
        obtain ⟨σ6, H6, S6, q6⟩ := hsp
        exact end_ S6 fun s7 J7 => ⟨_, _, J7, q6⟩
      | brk =>
        obtain ⟨σ6, H6, S6, q6⟩ := hsp
        exact end_ S6 fun s7 J7 => ⟨_, _, J7, q6⟩
      | cont =>
        obtain ⟨σ6, H6, S6, q6⟩ := hsp
        exact end_ S6 fun s7 J7 => ⟨_, _, J7, q6⟩
      | ret u =>
        obtain ⟨v6, σ6, H6, S6, r6, q6⟩ := hsp
        exact end_ S6 fun s7 J7 => ⟨_, _, _, J7, r6, q6⟩
    | false =>
      show wpAny _ X.A (handleBy (.ref a) X.env []) _ _ _
      refine wpAny_handleBy_nil ?_
      obtain ⟨k1, k2, k3, oe, vs, T, oT, ts', he, hz, hd, h1, hr⟩ := id fl3
      unfold PySem.passOn
      refine wpAny_bind (wpAny_field he hd h1 ?_)
      rw [if_neg (show ¬ ((Value.ref T == Value.none) = true) from by simp)]
      have fin : wpAny (model X.prog X.w) X.A (setFlight (.ref a) X.env.frame) (fun _ s4 => wpAny (model X.prog X.w) X.A (throw (.ref a) : Sem Flow) (SP X pins D) X.xe s4) X.xe { s' with heap := h3 } := by
        rw [hf]
        refine HandSPX.setFlight_upZ fl3 fun h4 hh4 up4 => wpAny_throw (tk _ _ ?_)
        exact ⟨a, B, sI, pins, σ', H', cls, d, rfl, J, nb, (up.trans up3).trans up4, .inr (.inr (by rw [hs]; exact hh4)), na, os, ag, hno rfl⟩
      first
        | exact wpAny_bind (wpAny_pure (wpAny_bind fin))
        | exact wpAny_bind fin
  · cases f with
    | next =>
      obtain ⟨σ', H', J', q⟩ := hsp
      exact wpAny_execs_nil ⟨σ', H', J'.ofTry ok, q⟩
    | brk =>
      obtain ⟨σ', H', J', q⟩ := hsp
      exact ⟨σ', H', J'.ofTry ok, q⟩
    | cont =>
      obtain ⟨σ', H', J', q⟩ := hsp
      exact ⟨σ', H', J'.ofTry ok, q⟩
    | ret u =>
      obtain ⟨v, σ', H', J', r, q⟩ := hsp
      exact ⟨v, σ', H', J'.ofTry ok, r, q⟩
end
/-! ### e.value -/
def tXv (K : PySem.W.Frag) (n : Str) (te : TE) : TE := fun σ H Q => te σ H fun x H1 => ∃ (a C d : Addr) (fs : List (Str × V)) (v : V), x = .ref a ∧ XfC K C ∧ PySem.W.findIn K (.ref C) n = some none ∧ H1 a = some (exT a (.ref C) (some d)) ∧ H1 d = some (.xd fs) ∧ fs.lookup n = some v ∧ Q v H1
theorem pe_xv {X : Cx} {e : Expr} {te : TE} {pos : Pos} {n : Str} (he : PE X e te) (hb : attributeBase e n X.env (eval e X.env) = eval e X.env := by rfl) : PE X (.Attribute e n pos) (tXv X.K n te) := by
  refine ⟨fun pins s σ H Q I h => ?_⟩
  refine attr_of hb (thn (he.run pins s σ H _ I h) fun u s1 hh => ?_)
  obtain ⟨x, H1, I1, rx, a, C, d, fs, v, rfl, T, hno, ea, ed, l, q⟩ := hh
  obtain rfl : u = Value.ref a := rx
  obtain ⟨oe, vs, ha, hz, hd⟩ := exT_at I1.hok ea
  have hx : ObjOk X.prog X.w H1 s1.heap d (.xd fs) := I1.hok d _ ed
  obtain ⟨mA, hns, hr⟩ := hx
  obtain ⟨od, ho, hl⟩ := lookIn_ns hns
  obtain ⟨u, hu, ru⟩ := RelO.some_of (v := v) (o := mA n) (by rw [← l]; exact hr n)
  have J : PySem.W.InstAt s1.heap a oe C (some od) := ⟨ha, hz.1, by unfold PySem.W.notCls; rw [hd] <;> rfl, by rw [hz.2.1]; exact ho⟩
  exact HandSPX.exc_get I1.kIn J T.ga T.gg T.exC (PySem.W.findObj_own T.hdC hno rfl (by rw [hl, hu])) (handed_of ru) ⟨v, H1, I1.tok _, ru, q⟩
end Sk
/-! own defs and methods that may raise; isinstance of an exception that the heap tells of -/
namespace PySem
open PySem.W PySem.Spec PySem.Calls PyProof.Rows
section
variable {prog : Program} {w : World} {A : Around} {E : Value → Shared → Prop} {s : Shared} {K : Frag} {x D : Addr} {ox : Obj} {od : Option Obj}
theorem sk_findData {C : Addr} {name : Str} {a g : Value} (hc : (clsIn K C).isSome = true) (ha : findIn K (.ref C) name = some (some a)) (hg : specialIn K a "__get__" = some (some g)) (ht : takesIn K a = some true) : findObj K C od name = some (.bind g a) := by
  obtain ⟨cd, hc⟩ := Option.isSome_iff_exists.mp hc
  unfold findObj
  rw [hc, Option.bind_some, ha, Option.bind_some]
  simp only [hg, ht, Option.bind_some]
/-- e.__class__ of an exception, with its dict or without -/
theorem sk_classE {Q : Option Value → Shared → Prop} (c : Sk.XfC' K D) (X : K.In s.heap) (I : InstAt s.heap x ox D od) (h : Q (some (.ref D)) { s with toks := s.toks + 1 }) : wpAny (model prog w) A (getAttr? (.ref x) "__class__") Q E s := by
  obtain ⟨hga, hgt, hsub, hdct, ha, hn, htk, hm⟩ := c
  have hf : findObj K D od "__class__" = some (.bind (.builtin "getset_descriptor.__get__") (.builtin "object.__class__")) := sk_findData (by obtain ⟨cd, hc, _⟩ := any_some hdct; rw [hc]; rfl) ha hn htk
  obtain ⟨hp, g, d, t, os⟩ := s
  have M0 := I.type (M := model prog w)
  have sub : Looks (model prog w) hp (isInstance (.ref x) (.type "BaseException")) true := M0.andThen (looks_subIn X hsub)
  have q2 : (Value.builtin "BaseException.__getattribute__" == Value.builtin "object.__getattribute__") = false := by decide +kernel
  unfold getAttr? getAttrBy? getAttrBy
  refine wpAny_bind (wpAny_mkText (wpAny_bind (wpAny_attempt (wpAny_holding (wpAny_bind (M0.at (wpAny_bind ((looks_findIn X hga).at ?_))))))))
  show wpAny _ _ (if (onTheHeap (Value.ref D) && Value.builtin "BaseException.__getattribute__" == Value.builtin "object.__getattribute__") = true then _ else _) _ _ _
  rw [if_neg (by rw [q2, Bool.and_false]; exact Bool.false_ne_true)]
  unfold getAttrByItsOwn hookBefore
  refine wpAny_bind ?_
  rw [if_pos (show onTheHeap (Value.ref D) = true from rfl)]
  refine (looks_findIn X hgt).at (wpAny_bind (wpAny_attempt (wpAny_holding ?_)))
  unfold callGetattribute
  rw [if_neg (show ¬ (false && onTheHeap (Value.builtin "BaseException.__getattribute__")) = true from Bool.false_ne_true)]
  unfold boundAndCalled
  rw [PySem.F.excAttr_ValueError.ga.bind (.ref x)]
  refine wpAny_bind (wpAny_pure ?_)
  show wpAny _ _ (call (.builtin "BaseException.__getattribute__") [.ref x, .str "__class__" t]) _ _ _
  refine wpAny_call (codeAny_call_builtin PySem.F.excAttr_ValueError.ga.plain PySem.F.entry_bexc_ga (@check_slot (model prog w) _ _ ⟨hp, g, d, t + 1, os⟩ "BaseException.__getattribute__" "BaseException" "__getattribute__" (.ref x) [.str "__class__" t] [] _ (by decide +kernel) (by decide +kernel) sub (PySem.F.args_bexc_ga (.ref x) (.str "__class__" t)) ?_))
  unfold Builtin.«object.__getattribute__»
  refine wpAny_bind (wpAny_of_eq (a := ((Value.ref x : Value), [Value.str "__class__" t])) (by first | rfl | (simp only [slotArgs]; rfl)) ?_)
  refine wpAny_bind (wpAny_pure (wpAny_bind (M0.at (wpAny_bind ((looks_find X I hf).at ?_)))))
  show wpAny _ _ (holding [Value.builtin "object.__class__"] (call (.builtin "getset_descriptor.__get__") [.builtin "object.__class__", .ref x, .ref D]) >>= ret) _ _ _
  refine wpAny_bind (wpAny_holding (wpAny_call (class_get (s := ⟨hp, g, d, t + 1, os⟩) (ox := ox) (od := od) X I hm ?_)))
  refine wpAny_pure ?_
  show wpAny _ _ (handedOut (.ref D)) _ _ _
  rw [handedOut_of (v := .ref D) rfl]
  first
    | exact wpAny_pure (wpAny_pure h)
    | exact wpAny_pure h
    | exact wpAny_pure (wpAny_bind (wpAny_pure (wpAny_pure h)))
theorem sk_kitE (c : Sk.XfC' K D) : KitX K (.ref x) (.ref D) (fun h => InstAt h x ox D od) where
  ty := fun _ _ _ I => I.type
  it := fun _ _ X _ => by
    obtain ⟨cdD, hcD, _⟩ := any_some c.hd
    unfold clsIn at hcD
    split at hcD
    · rename_i c' d' cd' sl' ho
      intro A' Q' E' s' k q
      unfold isType loadHead
      exact wpAny_bind (wpAny_loadPart (k _ _ (X _ _ ho)) (wpAny_pure q))
    · cases hcD
  ne := fun h tp dd its n sl X htp => by
    obtain ⟨cdD, hcD, _⟩ := any_some c.hd
    refine Bool.eq_false_iff.mpr fun q => ?_
    obtain rfl := Value.ref.inj (beq_iff_eq.mp q)
    unfold clsIn at hcD
    split at hcD
    · rename_i c' d' cd' sl' ho
      have z := (X _ _ ho).symm.trans htp
      cases z
    · cases hcD
  ca := fun X I k => sk_classE c X I k
end
end PySem
namespace Sk
open PySem PySem.Spec PyProof.Rows L2
/-! ### isinstance(e, ..) -/
/-- the exception at a, of the class D, with its dict (or without) -/
def ExAt (H : Hp) (a D : Addr) (d : Option Addr) : Prop := H a = some (exT a (.ref D) d) ∧ (d = none ∨ ∃ (dd : Addr) (fs : List (Str × V)), d = some dd ∧ H dd = some (.xd fs))
theorem ExAt.inst {P : Program} {w : World} {H : Hp} {h : Heap} {a D : Addr} {d : Option Addr} (hok : HOk P w H h) (z : ExAt H a D d) : ∃ ox od, PySem.W.InstAt h a ox D od := by
  obtain ⟨z1, z2⟩ := z
  obtain ⟨oe, vs, ha, hz, hd⟩ := exT_at hok z1
  have nc : PySem.W.notCls oe = true := by unfold PySem.W.notCls; rw [hd] <;> rfl
  rcases z2 with rfl | ⟨dd, fs, rfl, z2⟩
  · exact ⟨oe, none, ha, hz.1, nc, by rw [hz.2.1]; trivial⟩
  · have hx : ObjOk P w H h dd (.xd fs) := hok dd _ z2
    obtain ⟨mA, ⟨o, es, ep, ho, _⟩, _⟩ := hx
    exact ⟨oe, some o, ha, hz.1, nc, by rw [hz.2.1]; exact ho⟩
def rIsX (K : PySem.W.Frag) : List V → Hp → VK → Prop := fun xs H Q => ∃ (a D : Addr) (d : Option Addr) (c : V) (cv : Value) (b : Bool), xs = [.ref a, c] ∧ ExAt H a D d ∧ XfC' K D ∧ ClsV c cv ∧ PySem.W.kitOne K (.ref D) cv = some b ∧ Q (.bl b) H
def rIsXT (K : PySem.W.Frag) : List V → Hp → VK → Prop := fun xs H Q => ∃ (a D : Addr) (d : Option Addr) (tp : Addr) (cs : List V) (us : List Value) (b : Bool), xs = [.ref a, .ref tp] ∧ H tp = some (.tup cs) ∧ ExAt H a D d ∧ XfC' K D ∧ Paired ClsV cs us ∧ PySem.W.kitAny K (.ref D) us = some b ∧ Q (.bl b) H
section
variable {X : Cx}
theorem call_isX : CallR X (.builtin "isinstance") (rIsX X.K) := by
  intro pins s σ H xs us Q I r h
  obtain ⟨a, D, d, c, cv, b, rfl, z, T, k, e, q⟩ := h
  obtain ⟨u1, u2, rfl, r1, r2⟩ := vals2 r
  cases (show u1 = Value.ref a from r1)
  obtain rfl := k.eq r2
  obtain ⟨ox, od, J⟩ := z.inst I.hok
  exact PySem.W.kia_one (PySem.sk_kitE T) I.kIn J e (fun z => nomatch z) fun tk => ⟨.bl b, H, I.tok tk, rfl, q⟩
theorem call_isXT : CallR X (.builtin "isinstance") (rIsXT X.K) := by
  intro pins s σ H xs us Q I r h
  obtain ⟨a, D, d, tp, cs, ws, b, rfl, hT, z, T, k, e, q⟩ := h
  obtain ⟨u1, u2, rfl, r1, r2⟩ := vals2 r
  cases (show u1 = Value.ref a from r1)
  cases (show u2 = Value.ref tp from r2)
  obtain ⟨ox, od, J⟩ := z.inst I.hok
  obtain ⟨_, its, rv, o, h1, h2, n, h3⟩ := (show ObjOk X.prog X.w H s.heap tp (.tup cs) from I.hok tp _ hT)
  obtain rfl := ClsV.all k rv
  obtain ⟨oc, od2, dt, sl⟩ := o
  simp only at h2 h3
  subst h2 h3
  exact PySem.W.kia_tup (PySem.sk_kitE T) I.kIn J h1 e (fun z => nomatch z) fun tk => ⟨.bl b, H, I.tok tk, rfl, q⟩
end
theorem isXk {X : Cx} {K : PySem.W.Frag} (e : X.K = K) : CallR X (.builtin "isinstance") (rIsX K) := by subst e; exact call_isX
theorem isXTk {X : Cx} {K : PySem.W.Frag} (e : X.K = K) : CallR X (.builtin "isinstance") (rIsXT K) := by subst e; exact call_isXT
theorem peXv {X : Cx} {K : PySem.W.Frag} {e : Expr} {te : TE} {pos : Pos} {n : Str} (h : X.K = K) (he : PE X e te) (hb : attributeBase e n X.env (eval e X.env) = eval e X.env := by rfl) : PE X (.Attribute e n pos) (tXv K n te) := by
  subst h
  exact pe_xv he hb
theorem takes0 {X : Cx} : L2N.Takes X (fun _ _ _ _ => False) := fun u s' x => by
  obtain ⟨_, _, _, _, _, _, _, _, _, _, _, _, _, _, _, _, w⟩ := x
  exact w.elim
/-! ### own defs that may raise -/
structure FnX (P : Program) (w : World) (K : PySem.W.Frag) (mg : Str → Option Value) (base : Heap) (x : Str) (k : Nat) (ps : List Str) (sp : Sp) : Prop where
  ex : ∃ (f : Addr) (fd : FuncData), FnOk P w K mg base (L2N.CX P w) k f fd ps sp ∧ mg x = some (.ref f) ∧ PySem.W.keepIn K (.ref f) = true ∧ Binds K fd ps []
structure MetX (P : Program) (w : World) (K : PySem.W.Frag) (mg : Str → Option Value) (base : Heap) (k : Nat) (C : Addr) (m : Str) (sp : Sp) (dvs : List V) : Prop where
  ex : ∃ (f : Addr) (fd : FuncData) (ps : List Str) (ds : List Value), Cls K C ∧ Meth K C m f ∧ FnOk P w K mg base (L2N.CX P w) k f fd ps sp ∧ Binds K fd ps ds ∧ Vals dvs ds
structure MetKX (P : Program) (w : World) (K : PySem.W.Frag) (mg : Str → Option Value) (base : Heap) (k : Nat) (C : Addr) (m : Str) (sp : Sp) (ks : List Str) (gV : List V → List V → List V) : Prop where
  ex : ∃ (f : Addr) (fd : FuncData) (ps : List Str) (g : List Value → List Value → List Value), Cls K C ∧ Meth K C m f ∧ FnOk P w K mg base (L2N.CX P w) k f fd ps sp ∧ KBn K fd ps 1 ks g gV
def tMethX (C : Addr) (m : Str) (sp : Sp) (dvs : List V) (E : L2.St → XK) (ta : TE) (t : TA) : TE := fun σ H Q => ta σ H fun x H1 => ∃ a dx fs, x = .ref a ∧ H1 a = some (.ins C dx fs) ∧ fs.lookup m = none ∧
  t σ H1 fun vs H2 => sp (x :: (vs ++ dvs)) H2 Q (E σ)
def tMethKX (C : Addr) (m : Str) (n : Nat) (sp : Sp) (gV : List V → List V → List V) (E : L2.St → XK) (ta : TE) (tk : TA) : TE := fun σ H Q => ta σ H fun x H1 => ∃ a dx fs, x = .ref a ∧ H1 a = some (.ins C dx fs) ∧ fs.lookup m = none ∧
  tk σ H1 fun zs H2 => zs.length = n ∧ sp (gV [x] zs) H2 Q (E σ)
section
variable {X : Cx} {W : WX} {k j : Nat} {C : Addr} {x m : Str} {ps ks : List Str} {sp : Sp} {dvs : List V} {gV : List V → List V → List V} {e o : Expr} {es : List Expr} {ta : TE} {t tk : TA} {kws : List Keyword} {p pos apos : Pos}
theorem pe_fnX (F : FnX X.prog X.w X.K X.mg X.base x k ps sp) (hr : Room k X.A) (tk : L2N.Takes X W) (ha : PA X (e :: es) t) (hg : Gl X x := by rfl) (hdb : (x == ("__debug__" : Str)) = false := by decide)
    (he : starEach (e :: es) X.env = (false, eval e X.env) :: starEach es X.env := by rfl) (hpl : (backTo pos (starEach es X.env)).any (·.1) = false := by rfl) : PE X (.Call (.Name x p) (e :: es) [] pos) (tCallS sp (WE W) t) := by
  obtain ⟨f, fd, F1, hm, hk, hb⟩ := F.ex
  exact pe_callS F1 hr hg hm hk hb (fun σ => L2N.passAt tk σ) ha hdb he hpl
theorem pe_mtX {pl : Sem Bool} (c : MetX X.prog X.w X.K X.mg X.base k C m sp dvs) (hr : Room j X.A) (hj : k ≤ j) (tk : L2N.Takes X W) (he : PE X o ta) (ha : PA X (e :: es) t)
    (hst : starEach (e :: es) X.env = (false, eval e X.env) :: starEach es X.env := by rfl) (hpl : (backTo pos (starEach es X.env)).any (·.1) = false := by rfl)
    (ht : eval (.Call (.Attribute o m apos) (e :: es) [] pos) X.env = (do
      let ov ← eval o X.env
      standAt apos.atName
      let (f, first) ← holding [ov] (getMethod ov m pl)
      callWith pos f first (backTo pos (starEach (e :: es) X.env)) (backToKw pos (keywordEach [] X.env))) := by rfl) :
    PE X (.Call (.Attribute o m apos) (e :: es) [] pos) (tMethX C m sp dvs (WE W) ta t) := by
  obtain ⟨f, fd, ps, ds, hc, hm, F, hb, hd⟩ := c.ex
  refine ⟨fun pins s σ H Q I h => ?_⟩
  refine PySem.W.methodCall_KW (pl := pl) (thn (he.run pins s σ H _ I h) fun u s1 hh => ?_) ht
  obtain ⟨x, H1, I1, rx, a, dx, fs, rfl, ea, l, q⟩ := hh
  obtain rfl : u = Value.ref a := rx
  refine getmeth_ok I1 ea hc hm l ?_
  refine PySem.W.callWith_K (first := [.ref a]) (h₀ := X.base) I.ok.mod.kin hm.kp (thn (ha.run pos pins s1 σ H1 _ I1 q) fun us s2 ⟨vs, H2, I2, r, q2⟩ => ⟨I2.kIn, ?_⟩) hst hpl
  exact run_fnSD (E := WE W) (us := .ref a :: us) (vs := .ref a :: vs) F (hr.mono hj) hb hd (L2N.passAt tk σ) I2 (.cons rfl r) q2
theorem pe_mtX0 {pl : Sem Bool} (c : MetX X.prog X.w X.K X.mg X.base k C m sp dvs) (hr : Room j X.A) (hj : k ≤ j) (tk : L2N.Takes X W) (he : PE X o ta)
    (ht : eval (.Call (.Attribute o m apos) [] [] pos) X.env = (do
      let ov ← eval o X.env
      standAt apos.atName
      let (f, first) ← holding [ov] (getMethod ov m pl)
      callWith pos f first (backTo pos (starEach [] X.env)) (backToKw pos (keywordEach [] X.env))) := by rfl) :
    PE X (.Call (.Attribute o m apos) [] [] pos) (tMethX C m sp dvs (WE W) ta tNil) := by
  obtain ⟨f, fd, ps, ds, hc, hm, F, hb, hd⟩ := c.ex
  refine ⟨fun pins s σ H Q I h => ?_⟩
  refine PySem.W.methodCall_KW (pl := pl) (thn (he.run pins s σ H _ I h) fun u s1 hh => ?_) ht
  obtain ⟨x, H1, I1, rx, a, dx, fs, rfl, ea, l, q⟩ := hh
  obtain rfl : u = Value.ref a := rx
  refine getmeth_ok I1 ea hc hm l ?_
  exact PySem.W.callWith_K0 (first := [.ref a]) I1.kIn hm.kp (run_fnSD (E := WE W) (us := [.ref a]) (vs := [.ref a]) F (hr.mono hj) hb hd (L2N.passAt tk σ) I1 (.cons rfl .nil) q)
theorem run_fnNX {f : Addr} {fd : FuncData} {n : Nat} {g : List Value → List Value → List Value} {pins : List (Addr × Obj)} {σ : L2.St} {H : Hp} {s : Shared} {Q : VK} {us ws : List Value} {vs zs : List V} (F : FnOk X.prog X.w X.K X.mg X.base (L2N.CX X.prog X.w) k f fd ps sp) (hr : Room k X.A) (hb : KBn X.K fd ps n ks g gV) (tk : L2N.Takes X W)
    (I : Inv X pins σ H s) (r : Vals vs us) (rz : Vals zs ws) (l1 : vs.length = n) (l2 : zs.length = ks.length) (h : sp (gV vs zs) H Q (WE W σ)) : wpAny (model X.prog X.w) X.A (call (.ref f) us (ks.zip ws)) (EP X pins σ Q) X.xe s := by
  have b1 := hb.to s us ws I.kIn (r.length.symm.trans l1) (rz.length.symm.trans l2)
  refine wpAny_call (codeAny_mono (F.run X.A X.stack s H ⟨us, ks.zip ws⟩ (g us ws) (gV vs zs) Q (WE W σ) hr I.env0 b1 (hb.rel r rz) h) fun y s' hq => ?_)
  cases y with
  | error e => exact L2N.passAt tk σ pins H s e s' I hq
  | ok fl =>
    cases fl with
    | ret u => exact I.after hq
    | next => exact hq.elim
    | brk => exact hq.elim
    | cont => exact hq.elim
theorem pe_mtKX {pl : Sem Bool} (c : MetKX X.prog X.w X.K X.mg X.base k C m sp ks gV) (hr : Room j X.A) (hj : k ≤ j) (tk' : L2N.Takes X W) (he : PE X o ta) (hkw : PK X kws tk)
    (hall : (backToKw pos (keywordEach kws X.env)).all (·.1.isSome) = true := by rfl) (hks : (backToKw pos (keywordEach kws X.env)).filterMap (·.1) = ks := by rfl)
    (hpl : ((backTo pos (starEach [] X.env)).any (·.1) || (backToKw pos (keywordEach kws X.env)).any (·.1.isNone)) = false := by rfl)
    (ht : eval (.Call (.Attribute o m apos) [] kws pos) X.env = (do
      let ov ← eval o X.env
      standAt apos.atName
      let (f, first) ← holding [ov] (getMethod ov m pl)
      callWith pos f first (backTo pos (starEach [] X.env)) (backToKw pos (keywordEach kws X.env))) := by rfl) :
    PE X (.Call (.Attribute o m apos) [] kws pos) (tMethKX C m ks.length sp gV (WE W) ta tk) := by
  obtain ⟨f, fd, ps, g, hc, hm, F, hb⟩ := c.ex
  refine ⟨fun pins s σ H Q I h => ?_⟩
  refine PySem.W.methodCall_KW (pl := pl) (thn (he.run pins s σ H _ I h) fun u s1 hh => ?_) ht
  obtain ⟨x, H1, I1, rx, a, dx, fs, rfl, ea, l, q⟩ := hh
  obtain rfl : u = Value.ref a := rx
  refine getmeth_ok I1 ea hc hm l ?_
  refine PySem.W.callWith_KW0 (first := [.ref a]) (h₀ := X.base) I.ok.mod.kin hm.kp hall ?_ hpl
  refine thn (hkw.run pos pins s1 σ H1 _ I1 q) fun ws s2 ⟨zs, H2, I2, rz, l2, q2⟩ => ⟨I2.kIn, ?_⟩
  rw [hks]
  exact run_fnNX (us := [.ref a]) (vs := [.ref a]) F (hr.mono hj) hb tk' I2 (.cons rfl .nil) rz rfl l2 q2
end
end Sk
namespace Sk
open PySem PySem.Spec PyProof.Rows L2
/-! ### try, its readings under names (a loop's body is unified by its head) -/
def tTryO (K : PySem.W.Frag) (c : Value) (ts : Addr → Value → Option Addr → TS) (Wout : WX) (tb : WX → TS) : TS := fun D σ H => tb (wOnly K c ts Wout D) D σ H
def tTryA (K : PySem.W.Frag) (c : Value) (i : Nat) (ts : Addr → Value → Option Addr → TS) (Wout : WX) (tb : WX → TS) : TS := fun D σ H => tb (wAs K c i ts Wout D) D σ H
def tTryT (K : PySem.W.Frag) (c : Value) (i : Nat) (ts : Addr → TS) (Wout : WX) (tb : WX → TS) : TS := fun D σ H => tb (wAsT K c i ts Wout D) D σ H
section
variable {X : Cx} {x n : Str} {c : Value} {i : Nat} {body suite : List Stmt} {b₀ : Stmt} {np pos pos' : Pos} {tb : WX → TS} {Wout : WX}
theorem psTryO {ts : Addr → Value → Option Addr → TS} (hs : X.stack = X.env :: X.outer) (hf : X.env.frame = some X.env.locals) (hc : Names X x c) (tk : L2N.Takes X Wout)
    (hb : ∀ (W : WX) (pn : List (Addr × Obj)) (xe : Value → Shared → Prop), L2N.Takes (X.tr pn xe) W → PassesOwn (model X.prog X.w) X.A X.env xe → PSs (X.tr pn xe) body (tb W))
    (hsu : ∀ (a : Addr) (oe : Obj) (cls : Value) (d : Option Addr) (pn : List (Addr × Obj)), L2N.Zn cls d oe → (∃ vs, oe.data = .fields vs) → PSs (X.suite a ((a, oe) :: pn)) (b₀ :: suite) (ts a cls d)) :
    PS X (.Try body [.ExceptHandler (some (.Name x np)) none (b₀ :: suite) pos'] [] [] pos) (tTryO X.K c ts Wout tb) := by
  have hh : L2N.HdsOk X [.ExceptHandler (some (.Name x np)) none (b₀ :: suite) pos'] [(c, ts)] := .cons hc hsu .nil
  exact L2N.ps_try_many (l := [(c, ts)]) (pos := pos) hs hf tk hb hh
theorem psTryA {ts : Addr → Value → Option Addr → TS} (hs : X.stack = X.env :: X.outer) (hf : X.env.frame = some X.env.locals) (hN : X.N.Nodup) (hi : X.N[i]? = some n) (hln : X.env.kindOf n = some .local) (hc : Names X x c) (tk : L2N.Takes X Wout)
    (hb : ∀ (W : WX) (pn : List (Addr × Obj)) (xe : Value → Shared → Prop), L2N.Takes (X.tr pn xe) W → PassesOwn (model X.prog X.w) X.A X.env xe → PSs (X.tr pn xe) body (tb W))
    (hsu : ∀ (a : Addr) (oe : Obj) (cls : Value) (d : Option Addr) (pn : List (Addr × Obj)), L2N.Zn cls d oe → (∃ vs, oe.data = .fields vs) → PSs (X.suite a ((a, oe) :: pn)) (b₀ :: suite) (ts a cls d)) :
    PS X (.Try body [.ExceptHandler (some (.Name x np)) (some n) (b₀ :: suite) pos'] [] [] pos) (tTryA X.K c i ts Wout tb) := L2N.ps_try_as hs hf hN hi hln hc tk hb hsu
theorem psTryT {ts : Addr → TS} (hs : X.stack = X.env :: X.outer) (hf : X.env.frame = some X.env.locals) (hN : X.N.Nodup) (hi : X.N[i]? = some n) (hln : X.env.kindOf n = some .local) (hc : Names X x c) (tk : L2N.Takes X Wout)
    (hb : ∀ (W : WX) (pn : List (Addr × Obj)) (xe : Value → Shared → Prop), L2N.Takes (X.tr pn xe) W → PassesOwn (model X.prog X.w) X.A X.env xe → PSs (X.tr pn xe) body (tb W))
    (hsu : ∀ (a : Addr) (pn : List (Addr × Obj)), PSs (suiteT X a pn) (b₀ :: suite) (ts a)) :
    PS X (.Try body [.ExceptHandler (some (.Name x np)) (some n) (b₀ :: suite) pos'] [] [] pos) (tTryT X.K c i ts Wout tb) := ps_try_asT hs hf hN hi hln hc tk hb hsu
end
end Sk
/-! own defs called within an except suite, the exception told of by the heap -/
namespace PySem
open PySem.W PySem.Spec PySem.Calls PyProof.Rows HotX
section
variable {prog : Program} {w : World} {A : Around} {E : Value → Shared → Prop} {s : Shared} {x1 : Addr}
theorem sk_updKeep {h : Heap} {it b : Addr} {f : Obj → Obj} {o : Obj} (n : b ≠ it) (e : h.get? b = some o) : (h.update it f).get? b = some o := ((Heap.SameBut.update (a := it) (h := h) (f := f) ..).2 b n).trans e
/-- StopIteration is raised and swallowed -/
theorem sk_list_end {it l : Addr} {i : Nat} {items} {Q : Option Value → Shared → Prop} (hot : HotAt A x1 s.heap) (hx1 : x1 ≠ it)
    (hit : s.heap.IsListIter it l i) (hl : s.heap.IsList l items) (hx : items[i]? = none)
    (hQ : ∀ h', Heap.ExtBut it s.heap h' → Q none { s with heap := h' }) : wpAny (model prog w) A (pyNext (.ref it)) Q E s := by
  obtain ⟨o, ho, hc, hd⟩ := id hit
  obtain ⟨ol, hol, _, nl, hdl⟩ := hl
  obtain ⟨hh, o1, vs1, h1, d1, c1⟩ := hot
  unfold pyNext
  refine wpAny_bind (wpAny_attempt (wpAny_callSpecial?_slot (name := Str.ofString "__next__") hit.typeIs slot_listiter_next
    (wpAny_call_entry slot_listiter_next hit.typeIs entry_listiter_next ?_ (args_listiter_next _))))
  show wpAny _ _ (field (.ref it) 0 >>= _) _ _ s
  refine wpAny_bind (wpAny_field ho hd (x := .ref l) rfl ?_)
  show wpAny _ _ (if (Value.ref l == Value.none) = true then _ else _) _ _ s
  rw [if_neg (show ¬ ((Value.ref l == Value.none) = true) from Bool.false_ne_true)]
  show wpAny _ _ (field (.ref it) 1 >>= _) _ _ s
  refine wpAny_bind (wpAny_field ho hd (x := .int i 0) rfl ?_)
  show wpAny _ _ (seqItems? (.ref l) >>= _) _ _ s
  refine wpAny_bind (wpAny_seqItems hol hdl ?_)
  simp only [Int.toNat_natCast, hx]
  refine wpAny_bind (wpAny_rule (wpAny_bind (wpAny_setField ho hd (by simp) ?_)))
  show wpAny _ _ (newExc (.type "StopIteration") [] >>= _) _ _ _
  refine wpAny_bind ?_
  simp only [newExc, newTuple]
  refine wpAny_bind (wpAny_newObj_type ?_ (by size_fits))
  refine wpAny_bind (m := firstArgMember _ _) (wpAny_of_eq (a := Value.none) (by first | rfl | (simp only [firstArgMember]; rfl)) ?_)
  refine wpAny_newObj_type ?_ (by size_fits)
  refine raiseNew_hot ⟨hh, o1, vs1, Heap.get?_push_of_some _ (Heap.get?_push_of_some _ (sk_updKeep hx1 h1)), d1, c1⟩ (Nat.ne_of_lt (Heap.lt_size (Heap.get?_push_of_some _ (sk_updKeep hx1 h1)))) (Heap.get?_push_size _ rfl) rfl (by first | (simp; done) | (simp; omega) | (simp only [Array.size_append]; simp; omega)) ?_
  refine wpAny_bind (wpAny_isInstance (T := "StopIteration") (b := true) ⟨_, Heap.get?_update_self _ (Heap.get?_push_size _ rfl) rfl, rfl⟩ isSubtype_stop ?_)
  refine wpAny_pure (hQ _ fun b o hb e => ?_)
  rw [Heap.get?_update_other _ _ (Nat.ne_of_gt (Heap.lt_size (Heap.get?_push_of_some _ (sk_updKeep hb e))))]
  exact Heap.get?_push_of_some _ (Heap.get?_push_of_some _ (sk_updKeep hb e))
theorem sk_tuple_end {it t : Addr} {i : Nat} {items} {Q : Option Value → Shared → Prop} (hot : HotAt A x1 s.heap) (hx1 : x1 ≠ it)
    (hit : IsTupIter s.heap it t i) (ht : IsTup s.heap t items) (hx : items[i]? = none)
    (hQ : ∀ h', Heap.ExtBut it s.heap h' → Q none { s with heap := h' }) : wpAny (model prog w) A (pyNext (.ref it)) Q E s := by
  obtain ⟨o, ho, hc, hd⟩ := id hit
  obtain ⟨ol, hol, _, nl, hdl⟩ := ht
  obtain ⟨hh, o1, vs1, h1, d1, c1⟩ := hot
  have hT : s.TypeIs (.ref it) "tuple_iterator" := ⟨o, ho, hc⟩
  unfold pyNext
  refine wpAny_bind (wpAny_attempt (wpAny_callSpecial?_slot (name := Str.ofString "__next__") hT F.slot_tuple_iterator_next
    (wpAny_call_entry F.slot_tuple_iterator_next hT F.entry_tuple_iterator_next ?_ (F.args_tuple_iterator_next_1 _))))
  show wpAny _ _ (field (.ref it) 0 >>= _) _ _ s
  refine wpAny_bind (wpAny_field ho hd (x := .ref t) rfl ?_)
  show wpAny _ _ (if (Value.ref t == Value.none) = true then _ else _) _ _ s
  rw [if_neg (show ¬ ((Value.ref t == Value.none) = true) from Bool.false_ne_true)]
  show wpAny _ _ (field (.ref it) 1 >>= _) _ _ s
  refine wpAny_bind (wpAny_field ho hd (x := .int i 0) rfl ?_)
  show wpAny _ _ (seqItems? (.ref t) >>= _) _ _ s
  refine wpAny_bind (wpAny_seqItems hol hdl ?_)
  simp only [Int.toNat_natCast, hx]
  refine wpAny_bind (wpAny_rule (wpAny_bind (wpAny_setField ho hd (by simp) ?_)))
  show wpAny _ _ (newExc (.type "StopIteration") [] >>= _) _ _ _
  refine wpAny_bind ?_
  simp only [newExc, newTuple]
  refine wpAny_bind (wpAny_newObj_type ?_ (by size_fits))
  refine wpAny_bind (m := firstArgMember _ _) (wpAny_of_eq (a := Value.none) (by first | rfl | (simp only [firstArgMember]; rfl)) ?_)
  refine wpAny_newObj_type ?_ (by size_fits)
  refine raiseNew_hot ⟨hh, o1, vs1, Heap.get?_push_of_some _ (Heap.get?_push_of_some _ (sk_updKeep hx1 h1)), d1, c1⟩ (Nat.ne_of_lt (Heap.lt_size (Heap.get?_push_of_some _ (sk_updKeep hx1 h1)))) (Heap.get?_push_size _ rfl) rfl (by first | (simp; done) | (simp; omega) | (simp only [Array.size_append]; simp; omega)) ?_
  refine wpAny_bind (wpAny_isInstance (T := "StopIteration") (b := true) ⟨_, Heap.get?_update_self _ (Heap.get?_push_size _ rfl) rfl, rfl⟩ isSubtype_stop ?_)
  refine wpAny_pure (hQ _ fun b o hb e => ?_)
  rw [Heap.get?_update_other _ _ (Nat.ne_of_gt (Heap.lt_size (Heap.get?_push_of_some _ (sk_updKeep hb e))))]
  exact Heap.get?_push_of_some _ (Heap.get?_push_of_some _ (sk_updKeep hb e))
theorem sk_unpackItems {t : Addr} {items : Array Value} {Q : List Value → Shared → Prop} (hot : HotAt A x1 s.heap) (ht : IsTup s.heap t items)
    (hQ : ∀ h', Heap.ExtBut s.heap.objs.size s.heap h' → Q items.toList { s with heap := h' }) : wpAny (model prog w) A (unpackItems (.ref t) items.size none) Q E s := by
  have hlt : t ≠ s.heap.objs.size := by obtain ⟨o, ho, _⟩ := ht; exact Nat.ne_of_lt (Heap.lt_size ho)
  obtain ⟨hh, o1, vs1, h1, d1, c1⟩ := hot
  have hx : x1 ≠ s.heap.objs.size := Nat.ne_of_lt (Heap.lt_size h1)
  unfold unpackItems
  refine wpAny_bind ?_
  · unfold notIterableAtAll
    refine wpAny_bind (wpAny_specialOf ht.typeIs slot_tuple_iter.lookup ?_)
    refine wpAny_pure ?_
    simp only [Bool.false_eq_true, if_false]
    refine wpAny_bind (wpAny_holding (iter_tuple ht ?_))
    refine wpAny_bind (wpAny_holding (draw_tuple hlt items.size 0 _ _ ⟨_, Heap.get?_push_size _ rfl, rfl, rfl⟩ (ht.push _) (by omega) fun h₁ hit₁ hs₁ => ?_))
    have hall : List.take items.size (List.drop 0 items.toList) = items.toList := by
      rw [List.drop_zero]; exact List.take_of_length_le (by simp)
    rw [hall]
    rw [if_neg (by simp)]
    have ht₁ : IsTup h₁ t items := (ht.push _).extBut hs₁.extBut hlt
    have h1' : h₁.get? x1 = some o1 := hs₁.extBut x1 o1 hx (Heap.get?_push_of_some _ h1)
    refine wpAny_bind (wpAny_holding (sk_tuple_end ⟨hh, o1, vs1, h1', d1, c1⟩ hx hit₁ ht₁ (by simp) fun h₂ he₂ => ?_))
    simp only [Option.isSome_none, Bool.false_eq_true, if_false]
    refine wpAny_pure (hQ h₂ fun b o hb e => he₂ b o hb (hs₁.extBut b o hb (Heap.get?_push_of_some _ e)))
theorem sk_unpack {t : Addr} {items : Array Value} {targets : List (Bool × (Value → Sem Unit))} {Q : Unit → Shared → Prop} (hot : HotAt A x1 s.heap) (ht : IsTup s.heap t items)
    (hn : targets.length = items.size) (hstar : targets.findIdx? (·.1) = none)
    (h : ∀ h', Heap.ExtBut s.heap.objs.size s.heap h' → wpAny (model prog w) A (assignInOrder (targets.map (·.2)) items.toList) Q E { s with heap := h' }) :
    wpAny (model prog w) A (unpack (.ref t) targets) Q E s := by
  unfold unpack
  rw [hn, hstar]
  exact wpAny_bind (wpAny_holding (sk_unpackItems hot ht h))
theorem sk_assign_Tuple {env : Env} {elts : List Expr} {k} {pos : Pos} {t : Addr} {items : Array Value} {Q : Unit → Shared → Prop} (hot : HotAt A x1 s.heap) (ht : IsTup s.heap t items)
    (hn : (assignEach elts env).length = items.size) (hstar : (assignEach elts env).findIdx? (·.1) = none)
    (h : ∀ h', Heap.ExtBut s.heap.objs.size s.heap h' → wpAny (model prog w) A (assignInOrder ((assignEach elts env).map (·.2)) items.toList) Q E { s with heap := h' }) :
    wpAny (model prog w) A (assign (.Tuple elts k pos) env (.ref t)) Q E s := by
  rw [assign_Tuple]
  exact wpAny_bind (wpAny_standAt (sk_unpack hot ht hn hstar h))
end
end PySem
namespace Sk
open PySem PySem.Spec PyProof.Rows L2 L2H
/-! ### the exception a is handled, the heap tells of it -/
def Held1 (a : Addr) (H : Hp) : Prop := ∃ cls d, H a = some (exT a cls d)
theorem Held1.gr {T : List (Addr × Str)} {H H' : Hp} {a : Addr} (h : Held1 a H) (g : Gr T H H') : Held1 a H' := by
  obtain ⟨cls, d, e⟩ := h
  exact ⟨cls, d, g.ext a _ e exT_ntb⟩
theorem held_at {X : Cx} {pins : List (Addr × Obj)} {σ : L2.St} {H : Hp} {s : Shared} {a : Addr} (hh : X.A.handled = some (.ref a)) (I : Inv X pins σ H s) (z : Held1 a H) : HotX.HotAt X.A a s.heap := by
  obtain ⟨cls, d, z⟩ := z
  obtain ⟨oe, vs, ha, hz, hd⟩ := exT_at I.hok z
  exact ⟨hh, oe, vs, ha, hd, hz.2.2 vs hd⟩
/-! ### what a def promises there -/
structure FnT (P : Program) (w : World) (K : PySem.W.Frag) (mg : Str → Option Value) (base : Heap) (CX : CXT) (k : Nat) (f : Addr) (fd : FuncData) (ps : List Str) (sp : Addr → Sp) : Prop where
  len : ∀ a vs H Q E, sp a vs H Q E → vs.length = ps.length
  run : ∀ (A : Around) (outer : List Env) (s : Shared) (H : Hp) (args : Args) (us : List Value) (vs : List V) (Q : VK) (E : XK) (a : Addr), RoomH k A → A.handled = some (.ref a) → Env0 P w K mg base A outer s H → BindsTo s fd args (ps.zip us) → Vals vs us → sp a vs H Q E →
    codeAny (model P w) A (.call (.ref f) args) (CR CX outer P w H s Q E) s
/-- the context of such a def's body -/
def cxT (CX : CXT) (P : Program) (w : World) (K : PySem.W.Frag) (mg : Str → Option Value) (base : Heap) (N : List Str) (qual : Str) (scope : Scope) (f : Addr) (cd : Value) (A : Around) (outer : List Env) (s : Shared) (H : Hp) (E : XK) : Cx :=
  { cxOf CX P w K mg base N qual scope f cd A outer s H E with calm := false }
theorem inv_startT {CX : CXT} {P : Program} {w : World} {K : PySem.W.Frag} {mg : Str → Option Value} {base : Heap} {N ps : List Str} {qual : Str} {scope : Scope} {f : Addr} {cd : Value} {A : Around} {outer : List Env} {s s1 : Shared} {H : Hp} {E : XK} {us : List Value} {vs : List V}
    (S : FnScope N ps scope) (e0 : Env0 P w K mg base A outer s H) (hl : vs.length = ps.length) (r : Vals vs us)
    (x : InCallC s s.heap.objs.size (bindL (envOfC qual scope s.heap.objs.size f cd).kindOf (ps.zip us) fun _ => none) (cellsFrom (s.heap.objs.size + 1) scope.names []) (bindC (envOfC qual scope s.heap.objs.size f cd).kindOf (ps.zip us) fun _ => none) s1) :
    Inv (cxT CX P w K mg base N qual scope f cd A outer s H E) [] (L2.start N vs) H s1 := by
  have hpl : ps.length ≤ N.length := by have := congrArg List.length S.pre; rw [List.length_take] at this; omega
  obtain ⟨h1, tk, rfl, hk⟩ := x.done
  have noA : ∀ b : Addr, b ∉ (cxT CX P w K mg base N qual scope f cd A outer s H E).ex := fun b z => absurd (show b ∈ ([] : List Addr) from z) (by simp)
  refine ⟨⟨e0.mod, S.kind, rfl, rfl, Nat.le_refl _, fun y z c h1 h2 => ?_, fun y hy => ?_, fun y c _ h => ?_, (fun z => Bool.noConfusion (show false = true from z)), Around.frames_deeper e0.frames, .inr ⟨rfl, rfl⟩, fun b z => absurd z (noA b), e0.bs, e0.bsz, fun b _ _ => noA b, fun b z => absurd z (noA b), e0.funs, e0.frf⟩,
    rfl, e0.bare, Un.kept hk, ⟨_, x.toInCall.ns, fun i y v h1 h2 h3 => ?_⟩, fun y c h => ⟨_, x.cell y c h⟩, e0.hok.fresh (Nat.le_refl _), fun y c h => ?_, fun q hq => absurd (show q ∈ ([] : List (Addr × Obj)) ++ [] from hq) (by simp), e0.hok.kept hk, ?_⟩
  · exact name_of_addr x.apart (PySem.mem_of_lookup h1) (PySem.mem_of_lookup h2)
  · have hy : scope.names.lookup y = some .cell ∨ scope.names.lookup y = some .free := hy
    rcases hy with hy | hy
    · exact cell_has hy
    · exact absurd rfl (S.nofree _ (PySem.mem_of_lookup hy))
  · exact Nat.le_of_lt (x.above y c (PySem.mem_of_lookup h))
  · have hi : i < vs.length := by
      unfold L2.start at h2
      by_cases hi : i < vs.length
      · exact hi
      · rw [List.getElem?_append_right (by simpa using hi)] at h2
        rw [List.getElem?_replicate] at h2
        split at h2 <;> cases h2
    have ha : vs[i]? = some v := by
      unfold L2.start at h2
      rw [List.getElem?_append_left (by simpa using hi), List.getElem?_map] at h2
      cases e : vs[i]? with
      | none => rw [e] at h2; cases h2
      | some a => rw [e] at h2; cases h2; rfl
    obtain ⟨u, hu, rv⟩ := r.get ha
    have hp : ps[i]? = some y := by
      rw [← S.pre, List.getElem?_take_of_lt (by omega)]; exact h1
    have ndP : ps.Nodup := by rw [← S.pre]; exact S.nd.sublist (List.take_sublist _ _)
    refine ⟨u, rv, ?_⟩
    rcases S.par y (List.mem_of_getElem? hp) with k | k
    · exact .inl ⟨k, bindL_get ndP hp hu k⟩
    · obtain ⟨c, e⟩ := cell_has (n := s.heap.objs.size + 1) k
      refine .inr ⟨.inl k, c, e, ?_⟩
      have q := x.cell y c e
      rw [bindC_get ndP hp hu (by show scope.names.lookup y ≠ _; rw [k]; decide)] at q
      exact q
  · exact e0.hok.fresh (Nat.le_of_lt (x.above y c (PySem.mem_of_lookup h)))
  · unfold L2.start
    show _ = N.length
    rw [List.length_append, List.length_map, List.length_replicate]
    omega
theorem fn_ofT {CX : CXT} {P : Program} {w : World} {K : PySem.W.Frag} {mg : Str → Option Value} {base : Heap} {k : Nat} {f : Addr} {name qual : Str} {params : Arguments} {body : List Stmt} {scope : Scope} {dV kV doc pm cdv ct oc : Value} {an od : Option Addr}
    {osl : Array (Option Value)} {N ps : List Str} {sp : Addr → Sp} (lk : K.lookup f = some ⟨oc, od, .func (PySem.W.fnOf name qual params body scope dV kV doc pm an cdv ct), osl⟩) (hcd : PySem.W.codeIn K cdv qual = true) (S : FnScope N ps scope)
    (len : ∀ a vs H Q E, sp a vs H Q E → vs.length = ps.length)
    (hbody : ∀ (A : Around) (outer : List Env) (s : Shared) (H : Hp) (vs : List V) (Q : VK) (E : XK) (a : Addr), A.handled = some (.ref a) → RoomH k (A.deeper (envOfC qual scope s.heap.objs.size f cdv)) → sp a vs H Q E →
      ∃ t, PSs (cxT CX P w K mg base N qual scope f cdv A outer s H E) body t ∧ t { nx := fun _ H' => Q .non H', rt := Q } (L2.start N vs) H) :
    FnT P w K mg base CX (k + 1) f (PySem.W.fnOf name qual params body scope dV kV doc pm an cdv ct) ps sp := by
  refine ⟨len, fun A outer s H args us vs Q E a hr hot e0 hb r hsp => ?_⟩
  have hl := len _ _ _ _ _ hsp
  have KX : K.In s.heap := e0.mod.kin.keeps fun b o e => (e0.bs b o e).1
  have lim : s.heap.NoLimit := e0.mod.nolimit.keeps fun b o e => (e0.bs b o e).1
  have hkind : ∀ y ∈ ps.zip us, scope.names.lookup y.1 = some .local ∨ (scope.names.lookup y.1 = some .cell ∧ ((cellsFrom (s.heap.objs.size + 1) scope.names []).lookup y.1).isSome = true) := fun ⟨n, v⟩ hy => by
    rcases S.par n (List.of_mem_zip hy).1 with q | q
    · exact .inl q
    · exact .inr ⟨q, PySem.W.cellsFrom_some _ _ _ (.inl q)⟩
  refine codeAny_call_function hr.depth (KX _ _ lk) rfl S.co S.gen rfl (PySem.W.codeRec_of KX hcd) (hb _ _ _ _ ?_)
  refine wpAny_newFunctionEnv_cells S.kind hkind fun env he s1 x => ?_
  subst he
  refine ⟨lim.keeps x.toInCall.keep, codeAny_func ?_⟩
  obtain ⟨t, ht, hq⟩ := hbody A outer s H vs Q E a hot (hr.deeper _) hsp
  have I : Inv (cxT CX P w K mg base N qual scope f cdv A outer s H E) [] (L2.start N vs) H s1 := inv_startT S e0 hl r x
  refine wpAny_mono (ht.run [] s1 (L2.start N vs) H _ I hq) (fun fl s' hs => ?_) fun e s' hs => hs
  have fin : ∀ {σ' : L2.St} {H' : Hp} {v : V} {u : Value}, Inv (cxT CX P w K mg base N qual scope f cdv A outer s H E) [] σ' H' s' → RelV v u → Q v H' → CE outer P w H s Q u s' :=
    fun {σ' H' v u} J rv q => ⟨v, H', J.os, J.bare, J.base, J.hok, rv, q⟩
  cases fl with
  | ret u =>
    obtain ⟨v, σ', H', J, rv, q⟩ := hs
    exact fin J rv q
  | next =>
    obtain ⟨σ', H', J, q⟩ := hs
    exact fin (v := V.non) (u := Value.none) J rfl q
  | brk =>
    obtain ⟨_, _, _, q⟩ := hs
    exact False.elim q
  | cont =>
    obtain ⟨_, _, _, q⟩ := hs
    exact False.elim q
/-- by name -/
structure FnTx (P : Program) (w : World) (K : PySem.W.Frag) (mg : Str → Option Value) (base : Heap) (x : Str) (k : Nat) (ps : List Str) (sp : Addr → Sp) : Prop where
  ex : ∃ (f : Addr) (fd : FuncData), FnT P w K mg base CX0 k f fd ps sp ∧ mg x = some (.ref f) ∧ PySem.W.keepIn K (.ref f) = true ∧ Binds K fd ps []
section
variable {X : Cx} {CX : CXT} {k : Nat} {f a : Addr} {fd : FuncData} {ps : List Str} {sp : Addr → Sp} {x : Str} {q pos : Pos} {e : Expr} {es : List Expr} {t : TA}
theorem run_fnT {E : L2.St → XK} {pins : List (Addr × Obj)} {σ : L2.St} {H : Hp} {s : Shared} {Q : VK} {us : List Value} {vs : List V} (F : FnT X.prog X.w X.K X.mg X.base CX k f fd ps sp) (hr : RoomH k X.A) (hh : X.A.handled = some (.ref a)) (hb : Binds X.K fd ps []) (hx : PassesAt CX X σ (E σ))
    (I : Inv X pins σ H s) (r : Vals vs us) (h : sp a vs H Q (E σ)) : wpAny (model X.prog X.w) X.A (call (.ref f) us) (EP X pins σ Q) X.xe s := by
  have hl : us.length = ps.length := by rw [← r.length]; exact F.len _ _ _ _ _ h
  have b := hb s us I.kIn (by rw [List.append_nil]; exact hl)
  rw [List.append_nil] at b
  refine wpAny_call (codeAny_mono (F.run X.A X.stack s H ⟨us, []⟩ us vs Q (E σ) a hr hh I.env0 b r h) fun r s' hq => ?_)
  cases r with
  | error e => exact hx pins H s e s' I hq
  | ok fl =>
    cases fl with
    | ret u => exact I.after hq
    | next => exact False.elim hq
    | brk => exact False.elim hq
    | cont => exact False.elim hq
theorem pe_fnT (F : FnTx X.prog X.w X.K X.mg X.base x k ps sp) (hr : RoomH k X.A) (hh : X.A.handled = some (.ref a)) (ha : PA X (e :: es) t) (hg : Gl X x := by rfl) (hdb : (x == ("__debug__" : Str)) = false := by decide)
    (he : starEach (e :: es) X.env = (false, eval e X.env) :: starEach es X.env := by rfl) (hpl : (backTo pos (starEach es X.env)).any (·.1) = false := by rfl) : PE X (.Call (.Name x q) (e :: es) [] pos) (tCallS (sp a) (fun _ => E0) t) := by
  obtain ⟨f, fd, F1, hm, hk, hb⟩ := F.ex
  refine ⟨fun pins s σ H Q I h => ?_⟩
  refine wpAny_Call_Name_kw (ld_glob I hg hm ?_ hdb)
  refine PySem.W.callWith_K (h₀ := X.base) I.ok.mod.kin hk (thn (ha.run pos pins s σ H _ I h) fun us s1 ⟨vs, H1, I1, r, q⟩ => ⟨I1.kIn, ?_⟩) he hpl
  exact run_fnT (E := fun _ => E0) F1 hr hh hb (fun pins H s e s' I c => pass0 pins σ H s e s' I c) I1 r q
end
/-! ### targets -/
def gTupT (K : PySem.W.Frag) (n : Nat) (a : Addr) (t : TGs) : TG := fun v σ H Q => Held1 a H ∧ gTup K n t v σ H Q
theorem pg_tupT {X : Cx} {a : Addr} {es : List Expr} {k : Nat} {pos : Pos} {t : TGs} {n : Nat} (hh : X.A.handled = some (.ref a)) (h : PGs X es t)
    (hn : (assignEach es X.env).length = n := by rfl) (hst : (assignEach es X.env).findIdx? (·.1) = none := by rfl) : PG X (.Tuple es k pos) (gTupT X.K n a t) := by
  refine ⟨fun pins s σ H v u Q I r hw => ?_⟩
  obtain ⟨hd, p, xs, e1, hq, hl, hw⟩ := hw
  subst e1
  cases r
  obtain ⟨its, rv, ht, hz⟩ := I.tuple hq
  refine PySem.sk_assign_Tuple (held_at hh I hd) ht (by simp [hn, ← hl, rv.length]) hst fun h' hx => ?_
  have I1 : Inv X pins σ H { s with heap := h' } := I.kept (t' := s.toks) fun b o e => hx b o (Nat.ne_of_lt (Heap.lt_size e)) e
  exact h.run pins _ σ H xs _ Q I1 (by simpa using rv) hw
/-! ### iteration over a list -/
structure TurnT (P : Program) (w : World) (K : PySem.W.Frag) (tg : Expr) (J : It) (fp : List Addr) (it : Addr) (tn : Nat → Heap → Prop) (a : Addr) : Prop where
  mem : it ∈ fp
  obj : ∀ i h, tn i h → ∀ b ∈ fp, ∃ o, h.get? b = some o ∧ ∀ v, o.data ≠ .cell v
  keep : ∀ i h h', tn i h → (∀ b ∈ fp, ∀ o, h.get? b = some o → h'.get? b = some o) → tn i h'
  item : ∀ (X : Cx), X.prog = P → X.w = w → X.K = K → ∀ (i : Nat) (pins : List (Addr × Obj)) (s : Shared) (σ : L2.St) (H : Hp) (E : Value → Shared → Prop), Inv X pins σ H s → (∀ b ∈ fp, FpOk X pins H b) → tn i s.heap → J.go i H →
    wpAny (model P w) X.A (pyNext (.ref it)) (fun r s1 => ∃ u, r = some u ∧
      wpAny (model P w) X.A (letOwnedTupleGo tg (.ref it) u) (fun _ s2 => ∃ x H', Inv X pins σ H' s2 ∧ RelV x u ∧ J.yld i H x H' ∧ tn (i + 1) s2.heap ∧ ∀ b ∈ fp, H' b = none) E s1) E s
  done : ∀ (X : Cx), X.prog = P → X.w = w → X.K = K → X.A.handled = some (.ref a) → ∀ (i : Nat) (pins : List (Addr × Obj)) (s : Shared) (σ : L2.St) (H : Hp) (E : Value → Shared → Prop), Inv X pins σ H s → Held1 a H → (∀ b ∈ fp, FpOk X pins H b) → tn i s.heap → J.stop i H →
    wpAny (model P w) X.A (pyNext (.ref it)) (fun r s1 => r = none ∧ Inv X pins σ H s1) E s
  self : ∀ (A : Around) (i : Nat) (s : Shared) (Q : Value → Shared → Prop) (E : Value → Shared → Prop), tn i s.heap → Q (.ref it) s → wpAny (model P w) A (pyIter (.ref it)) Q E s
theorem turn_listT {P : Program} {w : World} {K : PySem.W.Frag} {tg : Expr} (p it a : Addr) : TurnT P w K tg (Itl K p) [it] it (fun i h => h.IsListIter it p i) a where
  mem := by simp
  obj := fun i h st b hb => by
    have e : b = it := by simpa using hb
    subst e
    obtain ⟨o, e, c, d⟩ := st
    exact ⟨o, e, fun v z => by rw [d] at z; cases z⟩
  keep := fun i h h' st k => st.at fun o e => k it (by simp) o e
  item := by
    intro X hP hw hK i pins s σ H E I hf st hg
    subst hP hw hK
    obtain ⟨xs, x, hq, hx⟩ := hg
    obtain ⟨its, rv, p, hz⟩ := I.list hq
    obtain ⟨u, hu, ru⟩ := rv.get hx
    obtain ⟨f0, f1, f2, f3, f4, f5⟩ := hf it (by simp)
    refine wpAny_pyNext_list_item st p.isList (x := u) (by simpa using hu) fun h' st' sb => ?_
    have I1 : Inv X pins σ H { s with heap := h' } := I.turned (t' := s.toks) (fun b o hb e => (sb.2 b hb).trans e) f0 f1 f3 f4 f5
    obtain ⟨o, e, c, d⟩ := id st'
    exact ⟨u, rfl, go_of (s := { s with heap := h' }) e c d (by decide) ⟨x, H, I1, ru, ⟨rfl, fun ys hy => by rw [I.list_inj hy hq]; exact hx⟩, st', fun b hb => (hf b hb).1⟩⟩
  done := by
    intro X hP hw hK hc i pins s σ H E I hd hf st hg
    subst hP hw hK
    obtain ⟨xs, hq, hx⟩ := hg
    obtain ⟨its, rv, p, hz⟩ := I.list hq
    obtain ⟨f0, f1, f2, f3, f4, f5⟩ := hf it (by simp)
    have hl := rv.length
    have na : a ≠ it := fun z => by
      obtain ⟨cls, d, e⟩ := hd
      rw [z, f0] at e
      cases e
    exact PySem.sk_list_end (held_at hc I hd) na st p.isList (by simp; omega) fun h' eb => ⟨rfl, I.turned (t' := s.toks) (fun b o hb e => eb b o hb e) f0 f1 f3 f4 f5⟩
  self := fun _ _ _ _ _ st h => wpAny_pyIter_listiter st h
def PIET (X : Cx) (pins : List (Addr × Obj)) (σ : L2.St) (tg : Expr) (a : Addr) (R : It → Hp → Prop) (itv : Value) (s2 : Shared) : Prop :=
  ∃ (it : Addr) (fp : List Addr) (tn : Nat → Heap → Prop) (J : It) (H' : Hp), itv = .ref it ∧ Inv X pins σ H' s2 ∧ TurnT X.prog X.w X.K tg J fp it tn a ∧ tn 0 s2.heap ∧ (∀ b ∈ fp, FpOk X pins H' b) ∧ R J H'
structure PITt (X : Cx) (tg iter : Expr) (a : Addr) (wi : TI) : Prop where
  run : ∀ (pins : List (Addr × Obj)) (s : Shared) (σ : L2.St) (H : Hp) (R : It → Hp → Prop), Inv X pins σ H s → wi σ H R →
    wpAny (model X.prog X.w) X.A (eval iter X.env) (fun v s1 => wpAny (model X.prog X.w) X.A (pyIter v) (PIET X pins σ tg a R) X.xe s1) X.xe s
theorem pi_listT {X : Cx} {tg l : Expr} {a : Addr} {tl : TE} (hl : PE X l tl) : PITt X tg l a (iList X.K tl) := by
  refine ⟨fun pins s σ H R I h => ?_⟩
  refine thn (hl.run pins s σ H _ I h) fun v s1 ⟨x, H1, I1, r1, q1⟩ => ?_
  obtain ⟨p, e, ⟨xs, hq⟩, q⟩ := q1
  subst e
  cases r1
  obtain ⟨its, rv, pl, hz⟩ := I1.list hq
  refine wpAny_pyIter_list pl.isList ?_
  refine ⟨s1.heap.objs.size, [s1.heap.objs.size], _, _, H1, rfl, I1.kept (t' := s1.toks) fun b o e => Heap.get?_push_of_some _ e, turn_listT p _ a, ⟨_, Heap.get?_push_size _ rfl, rfl, rfl⟩, fun b hb => ?_, q⟩
  have e : b = s1.heap.objs.size := by simpa using hb
  subst e
  exact I1.fpOk (Nat.le_refl _) (I1.hok.fresh (Nat.le_refl _))
/-! ### [elt for target in list if ..] -/
def tLcT (a : Addr) (wi : TI) (g : TG) (tt : TT) (te : TE) (vs : List Nat) : TE := fun σ H Q => wi σ H fun J H1 => ∀ D, H1 D = none → ∃ W : Nat → Nat → Hp → Prop, (∃ m, W 0 m (upd H1 D (.lst []))) ∧ ∀ i m H, W i m H → Held1 a H ∧
  ((J.stop i H ∧ Q (.ref D) H) ∨ (J.go i H ∧ ∃ Nx : Hp → Prop, (∀ H', Nx H' → ∃ m', m' < m ∧ W (i + 1) m' H') ∧ ∀ x H', J.yld i H x H' → g x (wipe σ vs) H' fun σ2 H2 => wipe σ2 vs = wipe σ vs ∧ tt σ2 H2 fun b H3 =>
    if b = true then te σ2 H3 fun y H4 => ∃ acc, H4 D = some (.lst acc) ∧ acc.length < sizeLine ∧ Nx (upd H4 D (.lst (acc ++ [y]))) else Nx H3))
section
variable {X : Cx}
theorem lc_coreT {a : Addr} {pins : List (Addr × Obj)} {s : Shared} {σ : L2.St} {H : Hp} {Q : VK} {elt tg iter : Expr} {ifs : List Expr} {scope : Scope} {own : List (Str × Nat)} {pos pos' : Pos} {wi : TI} {g : TG} {tt : TT} {te : TE} {use : Option (Value → Sem Unit)} {Qf : Value → Shared → Prop}
    (hc : X.A.handled = some (.ref a)) (hN : X.N.Nodup) (I : Inv X pins σ H s) (hi : PITt X tg iter a wi) (ok : BlkOk X.N X.env.scope scope own)
    (hg : ∀ (s : Shared) (H : Hp) (C : Addr) (cl : List (Str × Addr)) (fp : List Addr), PG (X.blk s H scope (compEnvC scope cl C X.env) fp) tg g) (ht : ∀ (s : Shared) (H : Hp) (C : Addr) (cl : List (Str × Addr)) (fp : List Addr), PTs (X.blk s H scope (compEnvC scope cl C X.env) fp) ifs tt)
    (he : ∀ (s : Shared) (H : Hp) (C : Addr) (cl : List (Str × Addr)) (fp : List Addr), PE (X.blk s H scope (compEnvC scope cl C X.env) fp) elt te) (hs : ∀ x, foldedSetIterable iter X.env x = pure x)
    (h : tLcT a wi g tt te (own.map (·.2)) σ H Q)
    (hRR : ∀ D C s' m H', Inv X pins σ H' s' → Q (.ref D) H' → s'.heap.Ns C m → FpOk X pins H' C → compPost (model X.prog X.w) X.A X.xe use Qf (.ref D) C (.ok .next) s') :
    wpAny (model X.prog X.w) X.A (comprehension (.ListComp elt [⟨tg, iter, ifs, 0⟩] scope pos) scope X.env pos' (newList []) false (eval iter X.env) use) Qf X.xe s := by
  have hfree : ∀ y ∈ scope.names, y.2 = .free → ∃ c, X.env.cells.lookup y.1 = some c := fun y hy e => by
    rcases ok.free y hy e with k | k
    · exact I.ok.has _ (.inl k)
    · exact I.ok.has _ (.inr k)
  refine wpAny_comprehension_free (use := use) rfl hs (closure_ok hfree) ok.kind (fun y hy e => by rw [ok.uniq y hy, e])
    (thn (hi.run pins s σ H _ I h) fun xv s1 hx => thn hx fun itv s2 h2 => ?_)
  obtain ⟨it, fp, tn, J, H2, e, I2, T, st2, f2, q⟩ := h2
  subst e
  refine wpAny_newObj_type (newEnv_comp ?_) (by show 0 ≤ sizeLine; decide)
  generalize hD : s2.heap.objs.size = D
  have hDn : H2 D = none := I2.hok.fresh (Nat.le_of_eq hD)
  obtain ⟨W, ⟨m0, w0⟩, turn⟩ := q D hDn
  generalize hs3 : ({ s2 with heap := s2.heap.push { cls := .type "list", data := .seq ([] : List Value).toArray } } : Shared) = s3
  have I3 : Inv X pins σ (upd H2 D (.lst [])) s3 := by
    rw [← hs3]
    refine I2.laid (t' := s2.toks) (fun b o e => Heap.get?_push_of_some _ e) (Nat.le_of_eq hD) ⟨Nat.zero_le _, [], 0, .nil, ?_⟩
    rw [← hD]
    exact Heap.get?_push_size _ rfl
  have h3 : s3.heap = s2.heap.push { cls := .type "list", data := .seq ([] : List Value).toArray } := by rw [← hs3]
  have sz : ∀ b ∈ fp, b < s2.heap.objs.size := fun b hb => by
    obtain ⟨o, e, _⟩ := T.obj _ _ st2 b hb
    exact Heap.lt_size e
  have f3 : ∀ b ∈ fp, FpOk X pins (upd H2 D (.lst [])) b ∧ b < s3.heap.objs.size := fun b hb => by
    have hlt := sz b hb
    refine ⟨⟨?_, (f2 b hb).2⟩, by rw [h3, Heap.size_push]; exact Nat.lt_succ_of_lt hlt⟩
    rw [upd_ne (by rw [← hD]; exact Nat.ne_of_lt hlt)]
    exact (f2 b hb).1
  have st3 : tn 0 s3.heap := T.keep _ _ _ st2 fun b _ o e => by rw [h3]; exact Heap.get?_push_of_some _ e
  have I4 := block_start I3 ok hN f3
  have pg := hg s3 (upd H2 D (.lst [])) s3.heap.objs.size (cellsFrom (s3.heap.objs.size + 1) scope.names (cloFrom X.env.cells scope.names [])) fp
  have pt := ht s3 (upd H2 D (.lst [])) s3.heap.objs.size (cellsFrom (s3.heap.objs.size + 1) scope.names (cloFrom X.env.cells scope.names [])) fp
  have pe := he s3 (upd H2 D (.lst [])) s3.heap.objs.size (cellsFrom (s3.heap.objs.size + 1) scope.names (cloFrom X.env.cells scope.names [])) fp
  show codeAny _ _ (.compStart (.ListComp elt [⟨tg, iter, ifs, 0⟩] scope pos) 0 (.ref it) (.ref D) (compEnvC scope (cellsFrom (s3.heap.objs.size + 1) scope.names (cloFrom X.env.cells scope.names [])) s3.heap.objs.size X.env)) (compPost (model X.prog X.w) X.A X.xe use Qf (.ref D) s3.heap.objs.size) { s3 with heap := pushCells (s3.heap.push { cls := .type "dict", data := .dict #[] }) scope.names }
  have nfp : ∀ b ∈ fp, (upd H2 D (.lst [])) b = none := fun b hb => (f3 b hb).1.1
  generalize hce : compEnvC scope (cellsFrom (s3.heap.objs.size + 1) scope.names (cloFrom X.env.cells scope.names [])) s3.heap.objs.size X.env = ce at I4 pg pt pe ⊢
  have cL : ce.locals = s3.heap.objs.size := by subst hce; rfl
  generalize hH3 : upd H2 D (.lst []) = H3 at I3 I4 pg pt pe w0 nfp f3
  generalize hs4 : ({ s3 with heap := pushCells (s3.heap.push { cls := .type "dict", data := .dict #[] }) scope.names } : Shared) = s4 at I4 ⊢
  have st4 : tn 0 s4.heap := T.keep _ _ _ st3 fun b _ o e => by rw [← hs4]; exact pushCells_keeps _ _ _ _ (Heap.get?_push_of_some _ e)
  have stat : ∀ {σ' : L2.St} {H' : Hp} {s' : Shared}, Inv (X.blk s3 H3 scope ce fp) [] σ' H' s' → (∀ b ∈ fp, H' b = none) → ∀ b ∈ fp, FpOk (X.blk s3 H3 scope ce fp) [] H' b := fun {σ' H' s'} I' hn b hb =>
    ⟨hn b hb, (I'.ok.exf b hb).1, I'.ok.exfs b hb, .inl hb, fun x c e => (I'.ok.exf b hb).2 x c e, fun p hp => absurd (show p ∈ ([] : List (Addr × Obj)) ++ [] from hp) (by simp)⟩
  have loop : codeAny (model X.prog X.w) X.A (.compLoop (.ListComp elt [⟨tg, iter, ifs, 0⟩] scope pos) 0 (.ref it) (.ref D) ce) (compPost (model X.prog X.w) X.A X.xe use Qf (.ref D) s3.heap.objs.size) s4 := by
    refine compLoop_any (fun n s' => ∃ i H', Inv (X.blk s3 H3 scope ce fp) [] (wipe σ (own.map (·.2))) H' s' ∧ tn i s'.heap ∧ (∀ b ∈ fp, H' b = none) ∧ W i n H') ?_ m0 ⟨0, H3, I4, st4, nfp, w0⟩
    rintro n s5 ⟨i, H5, I5, st5, n5, w5⟩
    obtain ⟨hd5, turn5⟩ := turn i n H5 w5
    rcases turn5 with ⟨stop, qq⟩ | ⟨go, Nx, hNx, step⟩
    · have td := T.done (X.blk s3 H3 scope ce fp) rfl rfl rfl hc i [] s5 _ H5 (fun _ _ => False) I5 hd5 (stat I5 n5) st5 stop
      refine thnF td fun r s6 ⟨hr, I6⟩ => ?_
      subst hr
      have I7 : Inv X pins σ H5 s6 := I3.call' (ch := fp) I6.os I6.base I6.hok I6.bare fun b hb => ⟨(f3 b hb).1.2.2.2.1, (f3 b hb).1.2.1, (f3 b hb).1.2.2.2.2.1, (f3 b hb).1.2.2.2.2.2⟩
      have nC : H5 s3.heap.objs.size = none := by
        have z : H5 ce.locals = none := I6.free
        rw [cL] at z
        exact z
      obtain ⟨m, hn, _⟩ := I6.loc
      have hn : s6.heap.Ns ce.locals m := hn
      rw [cL] at hn
      exact hRR D s3.heap.objs.size s6 m H5 I7 qq hn (I3.fpOk (Nat.le_refl _) nC)
    · have ti := T.item (X.blk s3 H3 scope ce fp) rfl rfl rfl i [] s5 _ H5 (fun _ _ => False) I5 (stat I5 n5) st5 go
      refine thnF ti fun r s6 ⟨u, hr, h6⟩ => ?_
      subst hr
      refine thnF h6 fun _ s7 ⟨x, H7, I7, r7, y7, st7, n7⟩ => ?_
      have I7' := I7.pinned (stat I7 n7) (T.obj _ _ st7)
      refine thnF (pg.run _ s7 _ H7 x u _ I7' r7 (step x H7 y7)) fun _ s8 ⟨σ8, H8, I8, hw8, q8⟩ => ?_
      refine thnF (pt.run _ s8 σ8 H8 _ I8 q8) fun b s9 ⟨H9, I9, q9⟩ => ?_
      have fin : ∀ {s' : Shared} {H' : Hp}, Inv (X.blk s3 H3 scope ce fp) ([] ++ pinsAt fp s7.heap) σ8 H' s' → Nx H' → ∃ m, m < n ∧ ∃ i H', Inv (X.blk s3 H3 scope ce fp) [] (wipe σ (own.map (·.2))) H' s' ∧ tn i s'.heap ∧ (∀ b ∈ fp, H' b = none) ∧ W i m H' := fun {s' H'} I' nx => by
        obtain ⟨m', hm, w'⟩ := hNx H' nx
        have pin' : ∀ b ∈ fp, ∀ o, s7.heap.get? b = some o → s'.heap.get? b = some o ∧ H' b = none := fun b hb o e =>
          let z := I'.pin (b, o) (List.mem_append_right _ (List.mem_append_right _ (mem_pinsAt hb e)))
          ⟨z.1, z.2.1⟩
        have hl : (wipe σ (own.map (·.2))).length = σ8.length := by rw [← hw8, wipe_length]
        refine ⟨m', hm, i + 1, H', (I'.unpinned (pins := [])).weak hl (fun j v e => ?_), T.keep _ _ _ st7 fun b hb o e => (pin' b hb o e).1, fun b hb => ?_, w'⟩
        · rw [← hw8] at e
          exact (wipe_some e).1
        · obtain ⟨o, e, _⟩ := T.obj _ _ st7 b hb
          exact (pin' b hb o e).2
      cases b with
      | false =>
        simp only [Bool.false_eq_true, if_false] at q9 ⊢
        exact fin I9 q9
      | true =>
        simp only [if_true] at q9 ⊢
        refine thnF (pe.run _ s9 σ8 H9 _ I9 q9) fun z s10 ⟨yv, H10, I10, r10, acc, hD10, hz10, nx⟩ => ?_
        exact app_ok (X := X.blk s3 H3 scope ce fp) I10 hD10 hz10 r10 fun s11 I11 => fin I11 nx
  exact codeAny_compStart_list loop (T.self X.A 0 _ _ _ st4 loop)
theorem pe_lcT {a : Addr} {elt tg iter : Expr} {ifs : List Expr} {scope : Scope} {own : List (Str × Nat)} {pos : Pos} {wi : TI} {g : TG} {tt : TT} {te : TE} (hc : X.A.handled = some (.ref a)) (hN : X.N.Nodup) (hi : PITt X tg iter a wi) (ok : BlkOk X.N X.env.scope scope own)
    (hg : ∀ (s : Shared) (H : Hp) (C : Addr) (cl : List (Str × Addr)) (fp : List Addr), PG (X.blk s H scope (compEnvC scope cl C X.env) fp) tg g) (ht : ∀ (s : Shared) (H : Hp) (C : Addr) (cl : List (Str × Addr)) (fp : List Addr), PTs (X.blk s H scope (compEnvC scope cl C X.env) fp) ifs tt)
    (he : ∀ (s : Shared) (H : Hp) (C : Addr) (cl : List (Str × Addr)) (fp : List Addr), PE (X.blk s H scope (compEnvC scope cl C X.env) fp) elt te) (hs : ∀ x, foldedSetIterable iter X.env x = pure x := by intro _; rfl) :
    PE X (.ListComp elt [⟨tg, iter, ifs, 0⟩] scope pos) (tLcT a wi g tt te (own.map (·.2))) := by
  refine ⟨fun pins s σ H Q I h => ?_⟩
  rw [eval_ListComp]
  refine lc_coreT hc hN I hi ok hg ht he hs h fun D C s' m H' I' q hn f => ⟨m, hn, fun h'' sb => ?_⟩
  obtain ⟨f0, f1, f2, f3, f4, f5⟩ := f
  exact ⟨.ref D, H', I'.turned (t' := s'.toks) (fun b o hb e => (sb.2 b hb).trans e) f0 f1 f3 f4 f5, rfl, q⟩
theorem ps_setLcT {a : Addr} {i : Nat} {y : Str} {py : Pos} {elt tg iter : Expr} {ifs : List Expr} {scope : Scope} {own : List (Str × Nat)} {pos spos : Pos} {wi : TI} {g : TG} {tt : TT} {te : TE} (hc : X.A.handled = some (.ref a)) (hN : X.N.Nodup) (hy : X.N[i]? = some y) (hyl : X.env.scope.names.lookup y = some .local)
    (hsw : swapsWith (.ListComp elt [⟨tg, iter, ifs, 0⟩] scope pos) (some (.Name y py)) spos.line X.env = pure true) (hi : PITt X tg iter a wi) (ok : BlkOk X.N X.env.scope scope own)
    (hg : ∀ (s : Shared) (H : Hp) (C : Addr) (cl : List (Str × Addr)) (fp : List Addr), PG (X.blk s H scope (compEnvC scope cl C X.env) fp) tg g) (ht : ∀ (s : Shared) (H : Hp) (C : Addr) (cl : List (Str × Addr)) (fp : List Addr), PTs (X.blk s H scope (compEnvC scope cl C X.env) fp) ifs tt)
    (he : ∀ (s : Shared) (H : Hp) (C : Addr) (cl : List (Str × Addr)) (fp : List Addr), PE (X.blk s H scope (compEnvC scope cl C X.env) fp) elt te) (hs : ∀ x, foldedSetIterable iter X.env x = pure x := by intro _; rfl) :
    PS X (.Assign [.Name y py] (.ListComp elt [⟨tg, iter, ifs, 0⟩] scope pos) spos) (tAsg (tLcT a wi g tt te (own.map (·.2))) (gName i)) := by
  refine ⟨fun pins s σ H D I h => ?_⟩
  rw [exec_Assign_Name_used _ _ _ _ hsw]
  refine wpAny_bind (wpAny_standAt (wpAny_bind ?_))
  show wpAny _ X.A (do let _ ← comprehension (.ListComp elt [⟨tg, iter, ifs, 0⟩] scope pos) scope X.env (firstIterPos [⟨tg, iter, ifs, 0⟩] pos) (newList []) false (eval iter X.env) (some (assign (.Name y py) X.env))) _ _ s
  have h : tLcT a wi g tt te (own.map (·.2)) σ H (fun x H1 => gName i x σ H1 D.nx) := h
  refine wpAny_bind (thn (lc_coreT (Qf := fun _ s' => SP X pins D .next s') hc hN I hi ok hg ht he hs h fun L C s' m H' I' q hn f => ?_) fun _ s' hq => wpAny_pure (wpAny_pure hq))
  show wpAny _ _ (assign (.Name y py) X.env (.ref L)) _ _ _
  refine wpAny_assign_Name (store_ok2 (v := V.ref L) I' hN hy (.inl hyl) rfl (fun s2 I2 ⟨a, sb, ha⟩ => ?_) (.inr hyl))
  obtain ⟨f0, f1, f2, f3, f4, f5⟩ := f
  have haC : C ≠ a := by
    rcases ha with z | z
    · rw [z]; exact f1
    · exact fun e => f4 y a z e.symm
  refine ⟨m, hn.sameBut sb haC, fun h3 sb3 => ?_⟩
  exact ⟨_, H', I2.turned (t' := s2.toks) (fun b o hb e => (sb3.2 b hb).trans e) f0 f1 f3 f4 f5, q⟩
/-- over a list that the block leaves as it is -/
theorem lcT_list {K : PySem.W.Frag} {e a : Addr} {xs : List V} {g : TG} {tt : TT} {te : TE} {vs : List Nat} {σ : L2.St} {H1 : Hp} {D : Addr} {Qd : Hp → Prop} (Pv : Nat → Hp → Prop) (h0 : Pv 0 (upd H1 D (.lst []))) (hq : ∀ i H, Pv i H → SqL K H a xs) (hd1 : ∀ i H, Pv i H → Held1 e H)
    (hs : ∀ i x H, xs[i]? = some x → Pv i H → g x (wipe σ vs) H fun σ2 H2 => wipe σ2 vs = wipe σ vs ∧ tt σ2 H2 fun b H3 =>
      if b = true then te σ2 H3 fun y H4 => ∃ acc, H4 D = some (.lst acc) ∧ acc.length < sizeLine ∧ Pv (i + 1) (upd H4 D (.lst (acc ++ [y]))) else Pv (i + 1) H3) (hd : ∀ H, Pv xs.length H → Qd H) :
    ∃ W : Nat → Nat → Hp → Prop, (∃ m, W 0 m (upd H1 D (.lst []))) ∧ ∀ i m H, W i m H → Held1 e H ∧
      (((Itl K a).stop i H ∧ Qd H) ∨ ((Itl K a).go i H ∧ ∃ Nx : Hp → Prop, (∀ H', Nx H' → ∃ m', m' < m ∧ W (i + 1) m' H') ∧ ∀ x H', (Itl K a).yld i H x H' → g x (wipe σ vs) H' fun σ2 H2 => wipe σ2 vs = wipe σ vs ∧ tt σ2 H2 fun b H3 =>
        if b = true then te σ2 H3 fun y H4 => ∃ acc, H4 D = some (.lst acc) ∧ acc.length < sizeLine ∧ Nx (upd H4 D (.lst (acc ++ [y]))) else Nx H3)) := by
  refine ⟨fun i m H => m = xs.length - i ∧ i ≤ xs.length ∧ Pv i H, ⟨xs.length, by simp, Nat.zero_le _, h0⟩, ?_⟩
  rintro i m H ⟨rfl, hi, p⟩
  refine ⟨hd1 i H p, ?_⟩
  by_cases hlt : i < xs.length
  · have hx : xs[i]? = some xs[i] := List.getElem?_eq_getElem hlt
    refine .inr ⟨⟨xs, xs[i], hq i H p, hx⟩, Pv (i + 1), fun H' p' => ⟨xs.length - (i + 1), by omega, rfl, hlt, p'⟩, fun x H' y => ?_⟩
    obtain ⟨e1, y⟩ := y
    subst e1
    have := y xs (hq i _ p)
    rw [hx] at this
    cases this
    exact hs i _ _ hx p
  · have e : i = xs.length := by omega
    subst e
    exact .inl ⟨⟨xs, hq _ H p, Nat.le_refl _⟩, hd H p⟩
end
end Sk
namespace Sk
open PySem PySem.Spec PyProof.Rows L2 L2H
theorem piLT {X : Cx} {K : PySem.W.Frag} {tg l : Expr} {a : Addr} {tl : TE} (e : X.K = K) (hl : PE X l tl) : PITt X tg l a (iList K tl) := by subst e; exact pi_listT hl
/-- called with the exception that is handled -/
def hotSp (sp : Sp) : Addr → Sp := fun a vs H Q E => vs.head? = some (.ref a) ∧ sp vs H Q E
theorem fnT_of {P : Program} {w : World} {K : PySem.W.Frag} {mg : Str → Option Value} {base : Heap} {x qual : Str} {params : Arguments} {body : List Stmt} {scope : Scope} {f : Addr} {fd : FuncData} {N ps : List Str} {k : Nat} {sp : Addr → Sp} (F : FunD K x qual params body scope [] [] f fd) (S : FnScope N ps scope)
    (len : ∀ a vs H Q E, sp a vs H Q E → vs.length = ps.length)
    (hbody : ∀ (cdv : Value) (A : Around) (outer : List Env) (s : Shared) (H : Hp) (vs : List V) (Q : VK) (E : XK) (a : Addr), A.handled = some (.ref a) → RoomH k (A.deeper (envOfC qual scope s.heap.objs.size f cdv)) → sp a vs H Q E →
      ∃ t, PSs (cxT CX0 P w K mg base N qual scope f cdv A outer s H E) body t ∧ t { nx := fun _ H' => Q .non H', rt := Q } (L2.start N vs) H) : FnT P w K mg base CX0 (k + 1) f fd ps sp := by
  obtain ⟨oc, od, dV, kV, doc, pm, an, cdv, ct, osl, rfl, lk, hcd, _, _⟩ := F.ex
  exact fn_ofT lk hcd S len fun A outer s H vs Q E a hh hr hsp => hbody cdv A outer s H vs Q E a hh hr hsp
/-! ### all that is asked of the program's exception classes -/
def kiAll (K : PySem.W.Frag) (cs : List Str) (base : Str) : Bool := cs.all fun C => xcB K (He.ga K C) && ((cs.all fun D => decide (PySem.W.kitOne K (.ref (He.ga K C)) (.ref (He.ga K D)) = some (C == D))) &&
  (decide (PySem.W.kitOne K (.ref (He.ga K C)) (.ref (He.ga K base)) = some true) && (decide (PySem.W.kitOne K (.ref (He.ga K C)) (.type "ValueError") = some true) && decide (PySem.W.exmOne K (.ref (He.ga K C)) (.ref (He.ga K base)) = some true))))
structure KiC (K : PySem.W.Frag) (cs : List Str) (base C : Str) : Prop where
  xb : XcB K (He.ga K C)
  ki : ∀ D ∈ cs, PySem.W.kitOne K (.ref (He.ga K C)) (.ref (He.ga K D)) = some (C == D)
  kb : PySem.W.kitOne K (.ref (He.ga K C)) (.ref (He.ga K base)) = some true
  kv : PySem.W.kitOne K (.ref (He.ga K C)) (.type "ValueError") = some true
  xm : PySem.W.exmOne K (.ref (He.ga K C)) (.ref (He.ga K base)) = some true
theorem kiAll_ok {K : PySem.W.Frag} {cs : List Str} {base C : Str} (h : kiAll K cs base = true) (hC : C ∈ cs) : KiC K cs base C := by
  unfold kiAll at h
  have q := List.all_eq_true.mp h C hC
  simp only [Bool.and_eq_true, decide_eq_true_eq, List.all_eq_true] at q
  obtain ⟨q1, q2, q3, q4, q5⟩ := q
  exact ⟨xcB_ok q1, fun D hD => q2 D hD, q3, q4, q5⟩
/-- at e stands an exception of the class C with this value -/
def ExcV (K : PySem.W.Frag) (H : Hp) (e : Addr) (C : Str) (v : V) : Prop := ∃ dd, H e = some (exT e (.ref (He.ga K C)) (some dd)) ∧ H dd = some (.xd [("value", v)])
theorem ExcV.gr {T : List (Addr × Str)} {K : PySem.W.Frag} {H H' : Hp} {e : Addr} {C : Str} {v : V} (h : ExcV K H e C v) (g : Gr T H H') : ExcV K H' e C v := by
  obtain ⟨dd, h1, h2⟩ := h
  exact ⟨dd, g.ext e _ h1 exT_ntb, g.ext dd _ h2 fun _ z => by cases z⟩
theorem ExcV.held {K : PySem.W.Frag} {H : Hp} {e : Addr} {C : Str} {v : V} (h : ExcV K H e C v) : Held1 e H := by
  obtain ⟨dd, h1, _⟩ := h
  exact ⟨_, _, h1⟩
/-- isinstance(e, D) -/
theorem ExcV.isx {K : PySem.W.Frag} {H : Hp} {e : Addr} {C : Str} {v c : V} {cv : Value} {b : Bool} {Q : VK} (h : ExcV K H e C v) (x : XcB K (He.ga K C)) (hc : ClsV c cv) (k : PySem.W.kitOne K (.ref (He.ga K C)) cv = some b) (q : Q (.bl b) H) : rIsX K [.ref e, c] H Q := by
  obtain ⟨dd, h1, h2⟩ := h
  exact ⟨e, _, some dd, c, cv, b, rfl, ⟨h1, .inr ⟨dd, _, rfl, h2⟩⟩, x.is, hc, k, q⟩
/-- e.value -/
theorem ExcV.value {K : PySem.W.Frag} {H : Hp} {e : Addr} {C : Str} {v : V} {Q : VK} (h : ExcV K H e C v) (x : XcB K (He.ga K C)) (q : Q v H) : ∃ (a C d : Addr) (fs : List (Str × V)) (v : V), V.ref e = .ref a ∧ XfC K C ∧ PySem.W.findIn K (.ref C) "value" = some none ∧ H a = some (exT a (.ref C) (some d)) ∧ H d = some (.xd fs) ∧ fs.lookup ("value" : Str) = some v ∧ Q v H := by
  obtain ⟨dd, h1, h2⟩ := h
  exact ⟨e, _, dd, _, v, rfl, x.xf, x.nv, h1, h2, rfl, q⟩
end Sk
/-! X(value=v) -/
namespace PySem
namespace HandSPX
open PySem.W PySem.Calls PyProof.Rows
section
variable {prog : Program} {w : World} {A : Around} {E : Value → Shared → Prop} {R : Result → Shared → Prop} {h : Heap} {g : Array GenState} {d : Drawn} {t : Nat} {os : OsState}
variable {nm q : Str} {C N : Addr} {bs bm bmB : List Value} {hdct : Bool} {sn : List Str} {sub : List Value} {ab : Bool} {col : Option Bool} {dd : Option Addr} {k0 k1 k2 k3 k5 : Option Value} {B newId initId : String}
theorem sk_checkK {M : Model} (F : ExcBaseFacts B newId initId bmB) (hT : ∀ X : String, bm.contains (.type X) = bmB.contains (.type X)) {u : Value} {Q : Unit → Shared → Prop}
    (hC : h.get? C = some (excClassObj nm q C N bs bm hdct sn sub ab col dd k0 k1 k2 k3 k5 newId)) (hq : Q () ⟨h, g, d, t, os⟩) : wpAny M A (checkBuiltinCall newId ⟨[.ref C], [("value", u)]⟩) Q E ⟨h, g, d, t, os⟩ := by
  have hcont : (Value.ref C :: bm).contains (.type B) = true := by rw [List.contains_cons, hT, F.hasB, Bool.or_true]
  have hstar := F.noStar
  simp only [checkBuiltinCall, F.newKind, F.newSplit, F.newRow]
  repeat (first | refine wpAny_loadPart_at hC ?_ | (refine wpAny_isSubtype_exc hC ?_; rw [hcont]) | refine wpAny_staticBase_exc hC ?_ | refine wpAny_madeBy_exc hC ?_ | simp only [bne_self_eq_false, Bool.false_eq_true, if_false] | wp_step)
  exact hq
theorem sk_newK (F : ExcBaseFacts B newId initId bmB) (hT : ∀ X : String, bm.contains (.type X) = bmB.contains (.type X)) {u : Value}
    (hC : h.get? C = some (excClassObj nm q C N bs bm hdct sn sub ab col dd k0 k1 k2 k3 k5 newId))
    (hq : R (.ok (.ret (.ref (h.objs.size + 1)))) ⟨(h.push (W.kdv_tup [])).push (excO C h.objs.size), g, d, t, os⟩) :
    codeAny (model prog w) A (.builtin newId ⟨[.ref C], [("value", u)]⟩) R ⟨h, g, d, t, os⟩ := by
  have hends := F.ends
  have hrest : ([] : List Value).length ≤ sizeLine := Nat.zero_le _
  have hcB : (Value.ref C :: bm).contains (.type B) = true := by rw [List.contains_cons, hT, F.hasB, Bool.or_true]
  have hcA : (Value.ref C :: bm).contains (.type "AttributeError") = false := by rw [List.contains_cons, hT, F.noAttr]; rfl
  have hcN : (Value.ref C :: bm).contains (.type "NameError") = false := by rw [List.contains_cons, hT, F.noName]; rfl
  refine codeAny_builtinAt F.entry ?_
  unfold Builtin.«BaseException.__new__»
  refine wpAt_bind ?_
  show wpAt _ _ _ (stack >>= _) _ _ _
  refine wpAt_bind (wpAt_stack fun p below => wpAt_of_wpAny ?_)
  wp_walk
  refine wpAt_of_wpAny ?_
  rw [F.owner]
  repeat (first | with_reducible refine wpAny_madeHere_exc F.canon hC ?_ | with_reducible refine wpAny_loadPart_at hC ?_ | (with_reducible refine wpAny_isSubtype_exc hC ?_; first | rw [hcB] | rw [hcA] | rw [hcN]) | wp_step)
  show R _ _
  rw [Heap.size_push]
  exact hq
theorem sk_typeCallK (F : ExcBaseFacts B newId initId bmB) (hT : ∀ X : String, bm.contains (.type X) = bmB.contains (.type X)) {u : Value} {fI : Addr} {Q : Fin → Shared → Prop}
    (hC : h.get? C = some (excClassObj nm q C N bs bm hdct sn sub ab col dd k0 k1 k2 k3 k5 newId))
    (hi : W.Looks (model prog w) h (typeLookup (.ref C) "__init__") (some (.ref fI))) (hb : ∀ self, W.Looks (model prog w) h (bindSpecial (.ref fI) self) (.ref fI, [self]))
    (hq : codeAny (model prog w) A (.call (.ref fI) ⟨[.ref (h.objs.size + 1)], [("value", u)]⟩)
      (fun r s' => match r with | .ok (.ret v) => v = .none ∧ Q (.done (.ret (.ref (h.objs.size + 1)))) s' | .ok _ => False | .error e => E e s')
      ⟨(h.push (W.kdv_tup [])).push (excO C h.objs.size), g, d, t, os⟩) :
    wpAny (model prog w) A (Builtin.«type.__call__» ⟨[.ref C], [("value", u)]⟩) Q E ⟨h, g, d, t, os⟩ := by
  repeat (first | with_reducible refine wpAny_loadPart_at hC ?_ | with_reducible refine wpAny_madeBy_exc hC ?_ | wp_step)
  refine codeAny_call_builtin_code (Code.quiet_builtin _ F.quiet) (sk_checkK F hT hC ?_)
  refine sk_newK F hT hC ?_
  show wpAny _ _ _ _ _ _
  have k : ∀ b o, h.get? b = some o → ((h.push (W.kdv_tup [])).push (excO C h.objs.size)).get? b = some o := fun b o e => Heap.get?_push_of_some _ (Heap.get?_push_of_some _ e)
  have hC₁ := k _ _ hC
  have hget : ((h.push (W.kdv_tup [])).push (excO C h.objs.size)).get? (h.objs.size + 1) = some (excO C h.objs.size) := by heap_get
  have hcC : (Value.ref C :: bm).contains (.ref C) = true := by simp
  have i1 := hi.keeps k
  have b1 := (hb (.ref (h.objs.size + 1))).keeps k
  unfold isInstance
  repeat (first | with_reducible refine wpAny_loadPart_at hget ?_ | (with_reducible refine wpAny_isSubtype_exc hC₁ ?_; rw [hcC]) | wp_step)
  show wpAny _ _ (typeLookup (.ref C) _) _ _ _
  refine i1.at ?_
  refine wpAny_holding (wpAny_bind (b1.at ?_))
  refine wpAny_bind (wpAny_call (codeAny_mono hq fun r s' z => ?_))
  rcases r with e | (v | _ | _ | _) <;> first | exact z | exact z.elim | skip
  obtain ⟨rfl, z⟩ := z
  first
    | exact wpAny_pure (wpAny_pure z)
    | (wp_walk; exact z)
theorem sk_callK (F : ExcBaseFacts B newId initId bmB) (hT : ∀ X : String, bm.contains (.type X) = bmB.contains (.type X)) {u : Value} {fI : Addr}
    (hC : h.get? C = some (excClassObj nm q C N bs bm hdct sn sub ab col dd k0 k1 k2 k3 k5 newId))
    (hi : W.Looks (model prog w) h (typeLookup (.ref C) "__init__") (some (.ref fI))) (hb : ∀ self, W.Looks (model prog w) h (bindSpecial (.ref fI) self) (.ref fI, [self]))
    (hq : codeAny (model prog w) (A.under (.builtin "type.__call__" ⟨[.ref C], [("value", u)]⟩)) (.call (.ref fI) ⟨[.ref (h.objs.size + 1)], [("value", u)]⟩) (W.InitBack (h.objs.size + 1) R)
      ⟨(h.push (W.kdv_tup [])).push (excO C h.objs.size), g, d, t, os⟩) :
    codeAny (model prog w) A (.call (.ref C) ⟨[], [("value", u)]⟩) R ⟨h, g, d, t, os⟩ := by
  have f1 := tc_lookup
  have f2 := tc_bind (.ref C)
  have hTy : (⟨h, g, d, t, os⟩ : Shared).TypeIs (.ref C) "type" := ⟨_, hC, rfl⟩
  refine codeAny_of_tree ?_
  show wpAny _ _ (callAny (.ref C) _) _ _ _
  repeat (any_goals (first | assumption | with_reducible refine wpAny_loadPart_at hC ?_ | wp_step))
  refine ⟨rfl, ?_⟩
  refine codeAny_call_builtin_at (Code.quiet_builtin _ (by decide +kernel)) entry_typeCall (wpAny_check_type_call_sub hC (sk_typeCallK F hT hC hi hb ?_))
  refine codeAny_mono hq fun r s' z => ?_
  rcases r with e | (v | _ | _ | _) <;> exact z
end
end HandSPX
end PySem
namespace Sk
open PySem PySem.Spec PyProof.Rows L2
section
variable {X : Cx} {x : Str} {kws : List Keyword} {t : TA} {p pos : Pos}
/-- the class is called by the keyword -/
theorem run_xcK {pins : List (Addr × Obj)} {σ : L2.St} {H1 : Hp} {s : Shared} {Q : XK} {v : V} {u : Value} (G : Xc X.prog X.w X.K X.mg X.base x) (hr : Room 2 X.A) (I1 : Inv X pins σ H1 s) (r : RelV v u)
    (q1 : ∀ d, H1 d = none → Q (.ref (He.ga X.K x)) (some d) (upd H1 d (.xd [("value", v)]))) : wpAny (model X.prog X.w) X.A (call (.ref (He.ga X.K x)) [] [("value", u)]) (fun u s' => L2N.MkP X pins σ Q u s' ∧ L2H.Six u s') X.xe s := by
  obtain ⟨fd, gk, F1, _, hb⟩ := G.fn
  obtain ⟨nm, q, N, bs, bm, sn, sub, ab, col, dd, k0, k1, k2, k3, k5, hC, hbm⟩ := G.b.ox.cls
  obtain ⟨hp, g, dr, tk, os⟩ := s
  let a : Addr := hp.objs.size + 1
  have hsz : hp.objs.size ≤ a := Nat.le_succ _
  have hn : H1 a = none := I1.hok.fresh hsz
  have kk : ∀ b o, hp.get? b = some o → ((hp.push (PySem.W.kdv_tup [])).push (PySem.HandSPX.excO (He.ga X.K x) hp.objs.size)).get? b = some o := fun b o z => Heap.get?_push_of_some _ (Heap.get?_push_of_some _ z)
  have hget : ((hp.push (PySem.W.kdv_tup [])).push (PySem.HandSPX.excO (He.ga X.K x) hp.objs.size)).get? a = some (PySem.HandSPX.excO (He.ga X.K x) hp.objs.size) := by
    show ((hp.push (PySem.W.kdv_tup [])).push (PySem.HandSPX.excO (He.ga X.K x) hp.objs.size)).get? (hp.objs.size + 1) = _
    heap_get
  have I2 := I1.laid (t' := tk) (a := a) (o := exo a (He.ga X.K x) none) (h' := (hp.push (PySem.W.kdv_tup [])).push (PySem.HandSPX.excO (He.ga X.K x) hp.objs.size)) kk hsz (exo_ok hget)
  have hq := xr_of (C := He.ga X.K x) hn q1
  have b1 := hb.to _ [Value.ref a] [u] I2.kIn rfl rfl
  have rl := hb.rel (us := [Value.ref a]) (ws := [u]) (vs := [V.ref a]) (zs := [v]) (.cons rfl .nil) (.cons r .nil)
  refine wpAny_call (PySem.HandSPX.sk_callK F.excBase_ValueError (fun Y => PySem.HandSPX.refsVE_contains Y bm hbm) (I1.kIn _ _ hC) (PySem.W.looks_findIn I1.kIn G.b.fi) (fun self => PySem.W.bind_fn I1.kIn self G.b.ti)
    (codeAny_mono (F1.run _ X.stack _ _ ⟨[Value.ref a], [("value", u)]⟩ _ _ _ E0 (hr.make (He.ga X.K x) [] [("value", u)]) (I2.env0.make (He.ga X.K x) [] [("value", u)]) b1 rl hq) fun r s' hq' => ?_))
  cases r with
  | error er => exact (pass0 : Passes CX0 X E0) pins σ _ _ er s' I2 hq'
  | ok fl =>
    cases fl with
    | ret u =>
      obtain ⟨v, H2, os2, bare2, un2, hok2, rv, ev, d, fs, ea, ed, hd1, q2⟩ := hq'
      subst ev
      obtain ⟨h2, g2, d2, t2, os'⟩ := s'
      obtain ⟨t0, Gh, J, kG, ge, hoe, na⟩ := mk_end0 (d2 := d2) (t2 := t2) I1 hsz kk un2 hok2 os2 bare2 ea ed hd1
      refine ⟨rv, ⟨hp.objs.size + 1, _, _, ⟨Gh, g2, d2, t2, os'⟩, _, .ref (He.ga X.K x), some d, rfl, J, kG, ge, hoe, ⟨rfl, rfl, fun vs hv => ?_⟩, rfl, rfl, na, rfl, bare2, raises_own G.b.ox.exC G.b.ox.tyC, q2⟩, fun a oe vs ea2 hg2 hd2 => ?_⟩
      · cases hv
        rfl
      · cases ea2
        have hg3 : h2.get? (hp.objs.size + 1) = some oe := hg2
        rw [hoe] at hg3
        cases hg3
        cases hd2
        show (4 : Nat) < 6
        decide
    | next => exact False.elim hq'
    | brk => exact False.elim hq'
    | cont => exact False.elim hq'
theorem pmk_xcK (G : Xc X.prog X.w X.K X.mg X.base x) (hr : Room 2 X.A) (hkw : PK X kws t) (hg : Gl X x := by rfl) (hdb : (x == ("__debug__" : Str)) = false := by decide)
    (hall : (backToKw pos (keywordEach kws X.env)).all (·.1.isSome) = true := by rfl) (hks : (backToKw pos (keywordEach kws X.env)).filterMap (·.1) = [("value" : Str)] := by rfl)
    (hpl : ((backTo pos (starEach [] X.env)).any (·.1) || (backToKw pos (keywordEach kws X.env)).any (·.1.isNone)) = false := by rfl) : L2N.PMk X (.Call (.Name x p) [] kws pos) (tXc X.K x t) := by
  intro pins s σ H Q I h
  refine wpAny_Call_Name_kw (ld_glob I hg G.hm ?_ hdb)
  refine PySem.W.callWith_KW0 (h₀ := X.base) I.ok.mod.kin G.b.ox.kC hall ?_ hpl
  refine thn (hkw.run pos pins s σ H _ I h) fun ws s2 ⟨zs, H2, I2, rz, v, ez, q2⟩ => ⟨I2.kIn, ?_⟩
  rw [hks]
  subst ez
  obtain ⟨u, rfl, ru⟩ : ∃ u, ws = [u] ∧ RelV v u := by
    cases rz with
    | cons r0 rr =>
      cases rr
      exact ⟨_, rfl, r0⟩
  exact wpAny_mono (run_xcK G hr I2 ru q2) (fun _ _ x => x.1) fun _ _ x => x
end
/-! ### the base class itself -/
abbrev bmVE : List Value := [Value.type "ValueError", Value.type "Exception", Value.type "BaseException", Value.type "object"]
def seB (K : PySem.W.Frag) (B : Addr) (cs : List Str) : Bool := PySem.W.excIn K B bmVE "ValueError.__new__" && (PySem.W.keepIn K (.ref B) && (decide (PySem.W.subIn K (.ref B) (.type "BaseException") = some true) && (decide (PySem.W.typeIn K (.ref B) = some (.type "type")) &&
  (decide (PySem.W.findIn K (.ref B) "__getattribute__" = some (some (.builtin "BaseException.__getattribute__"))) && (decide (PySem.W.findIn K (.ref B) "__getattr__" = some none) && (PySem.W.hasDictIn K B && (decide (PySem.W.findIn K (.ref B) "__class__" = some (some (.builtin "object.__class__"))) &&
  (decide (PySem.W.specialIn K (.builtin "object.__class__") "__get__" = some (some (.builtin "getset_descriptor.__get__"))) && (decide (PySem.W.takesIn K (.builtin "object.__class__") = some true) && (decide (PySem.W.mroIn K B (.type "object") = some true) &&
  cs.all fun D => decide (PySem.W.kitOne K (.ref B) (.ref (He.ga K D)) = some false)))))))))))
structure SeC (K : PySem.W.Frag) (B : Addr) (cs : List Str) : Prop where
  ex : PySem.W.excIn K B bmVE "ValueError.__new__" = true
  kp : PySem.W.keepIn K (.ref B) = true
  sb : PySem.W.subIn K (.ref B) (.type "BaseException") = some true
  ty : PySem.W.typeIn K (.ref B) = some (.type "type")
  xf : XfC' K B
  ki : ∀ D ∈ cs, PySem.W.kitOne K (.ref B) (.ref (He.ga K D)) = some false
theorem seB_ok {K : PySem.W.Frag} {B : Addr} {cs : List Str} (h : seB K B cs = true) : SeC K B cs := by
  unfold seB at h
  simp only [Bool.and_eq_true, decide_eq_true_eq, List.all_eq_true] at h
  obtain ⟨h1, h2, h3, h4, h5, h6, h7, h8, h9, h10, h11, h12⟩ := h
  exact ⟨h1, h2, h3, h4, ⟨h5, h6, h3, h7, h8, h9, h10, h11⟩, h12⟩
/-- B('text') -/
theorem pmk_bare {X : Cx} {x m : Str} {j : Nat} {p p2 pos : Pos} {cs : List Str} (S : seB X.K (He.ga X.K x) cs = true) (gC : X.mg x = some (.ref (He.ga X.K x))) (hg : Gl X x := by rfl) (hdb : (x == ("__debug__" : Str)) = false := by decide) :
    L2N.PMk X (.Call (.Name x p) [.Constant (.str m) j p2] [] pos) (fun _ H Q => Q (.ref (He.ga X.K x)) none H) := by
  have s := seB_ok S
  exact L2N.pmk_own F.excBase_ValueError s.ex gC s.kp (raises_own s.sb s.ty) hg hdb
theorem pe_fn0 {X : Cx} {x : Str} {k : Nat} {sp : Sp} {p pos : Pos} (F : Fn X.prog X.w X.K X.mg X.base x k [] sp) (hr : Room k X.A) (hg : Gl X x := by rfl) (hdb : (x == ("__debug__" : Str)) = false := by decide) : PE X (.Call (.Name x p) [] [] pos) (tCall sp [] E0 tNil) := by
  obtain ⟨f, fd, F1, hm, hk, hb⟩ := F.ex
  exact pe_call0 F1 hr hg hm hk hb .nil pass0 hdb
section
variable {X : Cx} {K : PySem.W.Frag} {x : Str} {e : Expr} {kws : List Keyword} {t : TA} {p pos : Pos}
theorem pmkXc (eK : X.K = K) (G : Xc X.prog X.w X.K X.mg X.base x) (hr : Room 2 X.A) (ha : PA X [e] t) (hg : Gl X x := by rfl) (hdb : (x == ("__debug__" : Str)) = false := by decide)
    (he : starEach [e] X.env = (false, eval e X.env) :: starEach [] X.env := by rfl) (hpl : (backTo pos (starEach [] X.env)).any (·.1) = false := by rfl) : L2N.PMk X (.Call (.Name x p) [e] [] pos) (tXc K x t) := by
  subst eK
  exact pmk_xc G hr ha hg hdb he hpl
theorem pmkXcK (eK : X.K = K) (G : Xc X.prog X.w X.K X.mg X.base x) (hr : Room 2 X.A) (hkw : PK X kws t) (hg : Gl X x := by rfl) (hdb : (x == ("__debug__" : Str)) = false := by decide)
    (hall : (backToKw pos (keywordEach kws X.env)).all (·.1.isSome) = true := by rfl) (hks : (backToKw pos (keywordEach kws X.env)).filterMap (·.1) = [("value" : Str)] := by rfl)
    (hpl : ((backTo pos (starEach [] X.env)).any (·.1) || (backToKw pos (keywordEach kws X.env)).any (·.1.isNone)) = false := by rfl) : L2N.PMk X (.Call (.Name x p) [] kws pos) (tXc K x t) := by
  subst eK
  exact pmk_xcK G hr hkw hg hdb hall hks hpl
theorem pmkBare {m : Str} {j : Nat} {p2 : Pos} {cs : List Str} (eK : X.K = K) (S : seB K (He.ga K x) cs = true) (gC : X.mg x = some (.ref (He.ga K x))) (hg : Gl X x := by rfl) (hdb : (x == ("__debug__" : Str)) = false := by decide) :
    L2N.PMk X (.Call (.Name x p) [.Constant (.str m) j p2] [] pos) (fun _ H Q => Q (.ref (He.ga K x)) none H) := by
  subst eK
  exact pmk_bare S gC hg hdb
end
end Sk
/-! the head's facts, the statics' dict among what is read -/
namespace Sk
open PySem PySem.Spec PyProof.Rows L2 He
def frC (g : Addr → Option Obj) (n : Nat) : PySem.W.Frag := frT g (asD g n ++ [cStatics])
def obsC (n : Nat) (fa : List Fa) (fn : List DefD) (tf : List Defn) (ex : PySem.W.Frag → Bool) (g : Addr → Option Obj) : AlX := (obsT fa fn [] (frC g n), ex (frC g n) && tabsB g tf (frC g n))
section
variable {n : Nat} {fa : List Fa} {fn : List DefD} {tf : List Defn} {ex : PySem.W.Frag → Bool} {w : World} {h : Heap}
theorem frC_in : (frC h.get? n).In h := frT_in
theorem saysC_of (e : obsC n fa fn tf ex h.get? = valX fn [] w) : SaysX fa fn [] tf ex w h (frC h.get? n) := by
  obtain ⟨h1, h2⟩ := Bool.and_eq_true_iff.mp (show (ex (frC h.get? n) && tabsB h.get? tf (frC h.get? n)) = true from congrArg Prod.snd e)
  have key : ∀ p ∈ tf, PySem.W.codeHdIn (frC h.get? n) (cT (frC h.get? n) p).1 (cT (frC h.get? n) p).2 = true ∧ ∃ o, h.get? (cT (frC h.get? n) p).2 = some o ∧ emptyTab o = true := by
    intro p hp
    obtain ⟨k1, k2⟩ := Bool.and_eq_true_iff.mp (List.all_eq_true.mp h2 p hp)
    refine ⟨k1, ?_⟩
    split at k2
    · exact ⟨_, ‹_›, k2⟩
    · cases k2
  refine ⟨congrArg Prod.fst e, h1, fun p hp => (key p hp).1, fun p hp => ?_, fun p hp => ?_⟩
  · obtain ⟨_, o, q, z⟩ := key p hp
    exact frT_none q z
  · obtain ⟨_, o, q, z⟩ := key p hp
    rw [q, emptyTab_eq z]
end
def hookC (n : Nat) (fa : List Fa) (fn : List DefD) (tf : List Defn) (ex : PySem.W.Frag → Bool) : PySem.W.Hook where
  α := AlX
  obs := fun s => obsC n fa fn tf ex s.heap.get?
  val := fun w => valX fn [] w
  says := fun w h => ∃ K : PySem.W.Frag, K.In h ∧ SaysX fa fn [] tf ex w h K
  of := fun _ _ e => ⟨_, frC_in, saysC_of e⟩
  keeps := fun _ _ _ ⟨K, hK, c⟩ k => ⟨K, PySem.W.Frag.In.keeps hK k, ⟨c.t, c.more, c.hd, c.out, fun p hp => k _ _ (c.empty p hp)⟩⟩
theorem obsC_eq {n : Nat} {fa : List Fa} {fn : List DefD} {tf : List Defn} {ex : PySem.W.Frag → Bool} {g : Addr → Option Obj} {s : Shared} (h : ∀ a, g a = s.heap.get? a) : obsC n fa fn tf ex g = (hookC n fa fn tf ex).obs s := by
  obtain rfl : g = s.heap.get? := funext h
  rfl
end Sk
namespace Sk
open PySem PySem.Spec PyProof.Rows L2
def topS (i : Nat) : Stmt := PySem.Challenge.pw_splitstock_k02_catalogue_errors.main.body.getD i (.Pass ⟨0, 0, 0, 0⟩)
abbrev FnP (K : PySem.W.Frag) (x : Str) (st : Stmt) (f : Addr) (fd : FuncData) : Prop := FunD K x x (defArgs st) (defBody st) (defScope st) [] [] f fd
structure Tx (K : PySem.W.Frag) (mg : Str → Option Value) : Prop where
  c_LETTERS : ∃ t, mg "LETTERS" = some (.str "abcdefghijklmnopqrstuvwxyz" t)
  c_MOST_LETTERS : ∃ t, mg "MOST_LETTERS" = some (.int 8 t)
  n_ValueError : mg "ValueError" = none
  n_abs : mg "abs" = none
  n_all : mg "all" = none
  n_any : mg "any" = none
  n_bool : mg "bool" = none
  n_dict : mg "dict" = none
  n_enumerate : mg "enumerate" = none
  n_int : mg "int" = none
  n_isinstance : mg "isinstance" = none
  n_len : mg "len" = none
  n_list : mg "list" = none
  n_max : mg "max" = none
  n_min : mg "min" = none
  n_range : mg "range" = none
  n_repr : mg "repr" = none
  n_reversed : mg "reversed" = none
  n_set : mg "set" = none
  n_sorted : mg "sorted" = none
  n_str : mg "str" = none
  n_sum : mg "sum" = none
  n_tuple : mg "tuple" = none
  n_type : mg "type" = none
  n_zip : mg "zip" = none
  g_InvalidCatalogue : mg "InvalidCatalogue" = some (.ref (He.ga K "InvalidCatalogue"))
  g_InvalidNumber : mg "InvalidNumber" = some (.ref (He.ga K "InvalidNumber"))
  g_InvalidSplits : mg "InvalidSplits" = some (.ref (He.ga K "InvalidSplits"))
  g_InvalidStep : mg "InvalidStep" = some (.ref (He.ga K "InvalidStep"))
  g_InvalidStock : mg "InvalidStock" = some (.ref (He.ga K "InvalidStock"))
  g_InvalidText : mg "InvalidText" = some (.ref (He.ga K "InvalidText"))
  g_StoreError : mg "StoreError" = some (.ref (He.ga K "StoreError"))
  g_TooManySteps : mg "TooManySteps" = some (.ref (He.ga K "TooManySteps"))
  xb_InvalidCatalogue : XcB K (He.ga K "InvalidCatalogue")
  xb_InvalidNumber : XcB K (He.ga K "InvalidNumber")
  xb_InvalidSplits : XcB K (He.ga K "InvalidSplits")
  xb_InvalidStep : XcB K (He.ga K "InvalidStep")
  xb_InvalidStock : XcB K (He.ga K "InvalidStock")
  xb_InvalidText : XcB K (He.ga K "InvalidText")
  xb_TooManySteps : XcB K (He.ga K "TooManySteps")
  sb : SbB K (He.ga K "StoreError")
  ke : kiAll K ["InvalidCatalogue", "InvalidStock", "InvalidSplits", "InvalidStep", "InvalidNumber", "TooManySteps", "InvalidText"] "StoreError" = true
  se : seB K (He.ga K "StoreError") ["InvalidCatalogue", "InvalidStock", "InvalidSplits", "InvalidStep", "InvalidNumber", "TooManySteps", "InvalidText"] = true
end Sk
namespace Sk
open PySem PySem.Spec PyProof.Rows L2
abbrev s_InvalidCatalogue___init__ : Stmt := inClass (topS 2) 0
abbrev N_InvalidCatalogue___init__ : List Str := ["self", "value"]
theorem sc_InvalidCatalogue___init__ : FnScope N_InvalidCatalogue___init__ ["self", "value"] (defScope s_InvalidCatalogue___init__) := ⟨rfl, rfl, rfl, by decide +kernel, rfl, by decide +kernel, by decide +kernel⟩
abbrev sp_InvalidCatalogue___init__ (Tb : List (Addr × Str)) (K : PySem.W.Frag) : Sp := xinit (He.ga K "InvalidCatalogue")
section
variable {P : Program} {w : World} {K : PySem.W.Frag} {mg : Str → Option Value} {base : Heap} {Tb : List (Addr × Str)}
theorem ok_InvalidCatalogue___init__ {f : Addr} {fd : FuncData} (F : FunD K "__init__" "InvalidCatalogue.__init__" (defArgs s_InvalidCatalogue___init__) (defBody s_InvalidCatalogue___init__) (defScope s_InvalidCatalogue___init__) [] [] f fd) (T : Tx K mg) : FnOk P w K mg base CX0 1 f fd ["self", "value"] (sp_InvalidCatalogue___init__ Tb K) := by
  refine F.ok sc_InvalidCatalogue___init__ (fun vs H Q E h => ?_) (fun cdv A outer s H vs Q E hr h => ?_)
  · obtain ⟨_, _, rfl, _⟩ := h
    rfl
  · obtain ⟨a, v, rfl, ea, k⟩ := h
    refine ⟨_, PSs.nox (pss_cons (ps_expr (pe_obinit T.sb T.g_StoreError (pa_cons (pv 0) (pa_cons pe_str pa_nil)))) (pss_one (ps_ost (pv 0) (pv 1)))), ?_⟩
    exact ⟨_, rfl, a, He.ga K "InvalidCatalogue", [.str _], rfl, by decide, T.xb_InvalidCatalogue.ox, ea, _, rfl, _, rfl, a, He.ga K "InvalidCatalogue", rfl, T.xb_InvalidCatalogue.ox, T.xb_InvalidCatalogue.nv, .inl ⟨ea, k⟩⟩
end
end Sk
namespace Sk
open PySem PySem.Spec PyProof.Rows L2
abbrev s_InvalidStock___init__ : Stmt := inClass (topS 3) 0
abbrev N_InvalidStock___init__ : List Str := ["self", "value"]
theorem sc_InvalidStock___init__ : FnScope N_InvalidStock___init__ ["self", "value"] (defScope s_InvalidStock___init__) := ⟨rfl, rfl, rfl, by decide +kernel, rfl, by decide +kernel, by decide +kernel⟩
abbrev sp_InvalidStock___init__ (Tb : List (Addr × Str)) (K : PySem.W.Frag) : Sp := xinit (He.ga K "InvalidStock")
section
variable {P : Program} {w : World} {K : PySem.W.Frag} {mg : Str → Option Value} {base : Heap} {Tb : List (Addr × Str)}
theorem ok_InvalidStock___init__ {f : Addr} {fd : FuncData} (F : FunD K "__init__" "InvalidStock.__init__" (defArgs s_InvalidStock___init__) (defBody s_InvalidStock___init__) (defScope s_InvalidStock___init__) [] [] f fd) (T : Tx K mg) : FnOk P w K mg base CX0 1 f fd ["self", "value"] (sp_InvalidStock___init__ Tb K) := by
  refine F.ok sc_InvalidStock___init__ (fun vs H Q E h => ?_) (fun cdv A outer s H vs Q E hr h => ?_)
  · obtain ⟨_, _, rfl, _⟩ := h
    rfl
  · obtain ⟨a, v, rfl, ea, k⟩ := h
    refine ⟨_, PSs.nox (pss_cons (ps_expr (pe_obinit T.sb T.g_StoreError (pa_cons (pv 0) (pa_cons pe_str pa_nil)))) (pss_one (ps_ost (pv 0) (pv 1)))), ?_⟩
    exact ⟨_, rfl, a, He.ga K "InvalidStock", [.str _], rfl, by decide, T.xb_InvalidStock.ox, ea, _, rfl, _, rfl, a, He.ga K "InvalidStock", rfl, T.xb_InvalidStock.ox, T.xb_InvalidStock.nv, .inl ⟨ea, k⟩⟩
end
end Sk
namespace Sk
open PySem PySem.Spec PyProof.Rows L2
abbrev s_InvalidSplits___init__ : Stmt := inClass (topS 4) 0
abbrev N_InvalidSplits___init__ : List Str := ["self", "value"]
theorem sc_InvalidSplits___init__ : FnScope N_InvalidSplits___init__ ["self", "value"] (defScope s_InvalidSplits___init__) := ⟨rfl, rfl, rfl, by decide +kernel, rfl, by decide +kernel, by decide +kernel⟩
abbrev sp_InvalidSplits___init__ (Tb : List (Addr × Str)) (K : PySem.W.Frag) : Sp := xinit (He.ga K "InvalidSplits")
section
variable {P : Program} {w : World} {K : PySem.W.Frag} {mg : Str → Option Value} {base : Heap} {Tb : List (Addr × Str)}
theorem ok_InvalidSplits___init__ {f : Addr} {fd : FuncData} (F : FunD K "__init__" "InvalidSplits.__init__" (defArgs s_InvalidSplits___init__) (defBody s_InvalidSplits___init__) (defScope s_InvalidSplits___init__) [] [] f fd) (T : Tx K mg) : FnOk P w K mg base CX0 1 f fd ["self", "value"] (sp_InvalidSplits___init__ Tb K) := by
  refine F.ok sc_InvalidSplits___init__ (fun vs H Q E h => ?_) (fun cdv A outer s H vs Q E hr h => ?_)
  · obtain ⟨_, _, rfl, _⟩ := h
    rfl
  · obtain ⟨a, v, rfl, ea, k⟩ := h
    refine ⟨_, PSs.nox (pss_cons (ps_expr (pe_obinit T.sb T.g_StoreError (pa_cons (pv 0) (pa_cons pe_str pa_nil)))) (pss_one (ps_ost (pv 0) (pv 1)))), ?_⟩
    exact ⟨_, rfl, a, He.ga K "InvalidSplits", [.str _], rfl, by decide, T.xb_InvalidSplits.ox, ea, _, rfl, _, rfl, a, He.ga K "InvalidSplits", rfl, T.xb_InvalidSplits.ox, T.xb_InvalidSplits.nv, .inl ⟨ea, k⟩⟩
end
end Sk
namespace Sk
open PySem PySem.Spec PyProof.Rows L2
abbrev s_InvalidStep___init__ : Stmt := inClass (topS 5) 0
abbrev N_InvalidStep___init__ : List Str := ["self", "value"]
theorem sc_InvalidStep___init__ : FnScope N_InvalidStep___init__ ["self", "value"] (defScope s_InvalidStep___init__) := ⟨rfl, rfl, rfl, by decide +kernel, rfl, by decide +kernel, by decide +kernel⟩
abbrev sp_InvalidStep___init__ (Tb : List (Addr × Str)) (K : PySem.W.Frag) : Sp := xinit (He.ga K "InvalidStep")
section
variable {P : Program} {w : World} {K : PySem.W.Frag} {mg : Str → Option Value} {base : Heap} {Tb : List (Addr × Str)}
theorem ok_InvalidStep___init__ {f : Addr} {fd : FuncData} (F : FunD K "__init__" "InvalidStep.__init__" (defArgs s_InvalidStep___init__) (defBody s_InvalidStep___init__) (defScope s_InvalidStep___init__) [] [] f fd) (T : Tx K mg) : FnOk P w K mg base CX0 1 f fd ["self", "value"] (sp_InvalidStep___init__ Tb K) := by
  refine F.ok sc_InvalidStep___init__ (fun vs H Q E h => ?_) (fun cdv A outer s H vs Q E hr h => ?_)
  · obtain ⟨_, _, rfl, _⟩ := h
    rfl
  · obtain ⟨a, v, rfl, ea, k⟩ := h
    refine ⟨_, PSs.nox (pss_cons (ps_expr (pe_obinit T.sb T.g_StoreError (pa_cons (pv 0) (pa_cons pe_str pa_nil)))) (pss_one (ps_ost (pv 0) (pv 1)))), ?_⟩
    exact ⟨_, rfl, a, He.ga K "InvalidStep", [.str _], rfl, by decide, T.xb_InvalidStep.ox, ea, _, rfl, _, rfl, a, He.ga K "InvalidStep", rfl, T.xb_InvalidStep.ox, T.xb_InvalidStep.nv, .inl ⟨ea, k⟩⟩
end
end Sk
namespace Sk
open PySem PySem.Spec PyProof.Rows L2
abbrev s_InvalidNumber___init__ : Stmt := inClass (topS 6) 0
abbrev N_InvalidNumber___init__ : List Str := ["self", "value"]
theorem sc_InvalidNumber___init__ : FnScope N_InvalidNumber___init__ ["self", "value"] (defScope s_InvalidNumber___init__) := ⟨rfl, rfl, rfl, by decide +kernel, rfl, by decide +kernel, by decide +kernel⟩
abbrev sp_InvalidNumber___init__ (Tb : List (Addr × Str)) (K : PySem.W.Frag) : Sp := xinit (He.ga K "InvalidNumber")
section
variable {P : Program} {w : World} {K : PySem.W.Frag} {mg : Str → Option Value} {base : Heap} {Tb : List (Addr × Str)}
theorem ok_InvalidNumber___init__ {f : Addr} {fd : FuncData} (F : FunD K "__init__" "InvalidNumber.__init__" (defArgs s_InvalidNumber___init__) (defBody s_InvalidNumber___init__) (defScope s_InvalidNumber___init__) [] [] f fd) (T : Tx K mg) : FnOk P w K mg base CX0 1 f fd ["self", "value"] (sp_InvalidNumber___init__ Tb K) := by
  refine F.ok sc_InvalidNumber___init__ (fun vs H Q E h => ?_) (fun cdv A outer s H vs Q E hr h => ?_)
  · obtain ⟨_, _, rfl, _⟩ := h
    rfl
  · obtain ⟨a, v, rfl, ea, k⟩ := h
    refine ⟨_, PSs.nox (pss_cons (ps_expr (pe_obinit T.sb T.g_StoreError (pa_cons (pv 0) (pa_cons pe_str pa_nil)))) (pss_one (ps_ost (pv 0) (pv 1)))), ?_⟩
    exact ⟨_, rfl, a, He.ga K "InvalidNumber", [.str _], rfl, by decide, T.xb_InvalidNumber.ox, ea, _, rfl, _, rfl, a, He.ga K "InvalidNumber", rfl, T.xb_InvalidNumber.ox, T.xb_InvalidNumber.nv, .inl ⟨ea, k⟩⟩
end
end Sk
namespace Sk
open PySem PySem.Spec PyProof.Rows L2
abbrev s_TooManySteps___init__ : Stmt := inClass (topS 7) 0
abbrev N_TooManySteps___init__ : List Str := ["self", "value"]
theorem sc_TooManySteps___init__ : FnScope N_TooManySteps___init__ ["self", "value"] (defScope s_TooManySteps___init__) := ⟨rfl, rfl, rfl, by decide +kernel, rfl, by decide +kernel, by decide +kernel⟩
abbrev sp_TooManySteps___init__ (Tb : List (Addr × Str)) (K : PySem.W.Frag) : Sp := xinit (He.ga K "TooManySteps")
section
variable {P : Program} {w : World} {K : PySem.W.Frag} {mg : Str → Option Value} {base : Heap} {Tb : List (Addr × Str)}
theorem ok_TooManySteps___init__ {f : Addr} {fd : FuncData} (F : FunD K "__init__" "TooManySteps.__init__" (defArgs s_TooManySteps___init__) (defBody s_TooManySteps___init__) (defScope s_TooManySteps___init__) [] [] f fd) (T : Tx K mg) : FnOk P w K mg base CX0 1 f fd ["self", "value"] (sp_TooManySteps___init__ Tb K) := by
  refine F.ok sc_TooManySteps___init__ (fun vs H Q E h => ?_) (fun cdv A outer s H vs Q E hr h => ?_)
  · obtain ⟨_, _, rfl, _⟩ := h
    rfl
  · obtain ⟨a, v, rfl, ea, k⟩ := h
    refine ⟨_, PSs.nox (pss_cons (ps_expr (pe_obinit T.sb T.g_StoreError (pa_cons (pv 0) (pa_cons pe_str pa_nil)))) (pss_one (ps_ost (pv 0) (pv 1)))), ?_⟩
    exact ⟨_, rfl, a, He.ga K "TooManySteps", [.str _], rfl, by decide, T.xb_TooManySteps.ox, ea, _, rfl, _, rfl, a, He.ga K "TooManySteps", rfl, T.xb_TooManySteps.ox, T.xb_TooManySteps.nv, .inl ⟨ea, k⟩⟩
end
end Sk
namespace Sk
open PySem PySem.Spec PyProof.Rows L2
abbrev s_InvalidText___init__ : Stmt := inClass (topS 8) 0
abbrev N_InvalidText___init__ : List Str := ["self", "value"]
theorem sc_InvalidText___init__ : FnScope N_InvalidText___init__ ["self", "value"] (defScope s_InvalidText___init__) := ⟨rfl, rfl, rfl, by decide +kernel, rfl, by decide +kernel, by decide +kernel⟩
abbrev sp_InvalidText___init__ (Tb : List (Addr × Str)) (K : PySem.W.Frag) : Sp := xinit (He.ga K "InvalidText")
section
variable {P : Program} {w : World} {K : PySem.W.Frag} {mg : Str → Option Value} {base : Heap} {Tb : List (Addr × Str)}
theorem ok_InvalidText___init__ {f : Addr} {fd : FuncData} (F : FunD K "__init__" "InvalidText.__init__" (defArgs s_InvalidText___init__) (defBody s_InvalidText___init__) (defScope s_InvalidText___init__) [] [] f fd) (T : Tx K mg) : FnOk P w K mg base CX0 1 f fd ["self", "value"] (sp_InvalidText___init__ Tb K) := by
  refine F.ok sc_InvalidText___init__ (fun vs H Q E h => ?_) (fun cdv A outer s H vs Q E hr h => ?_)
  · obtain ⟨_, _, rfl, _⟩ := h
    rfl
  · obtain ⟨a, v, rfl, ea, k⟩ := h
    refine ⟨_, PSs.nox (pss_cons (ps_expr (pe_obinit T.sb T.g_StoreError (pa_cons (pv 0) (pa_cons pe_str pa_nil)))) (pss_one (ps_ost (pv 0) (pv 1)))), ?_⟩
    exact ⟨_, rfl, a, He.ga K "InvalidText", [.str _], rfl, by decide, T.xb_InvalidText.ox, ea, _, rfl, _, rfl, a, He.ga K "InvalidText", rfl, T.xb_InvalidText.ox, T.xb_InvalidText.nv, .inl ⟨ea, k⟩⟩
end
end Sk
namespace Sk
open PySem PySem.Spec PyProof.Rows L2
abbrev s_is_name : Stmt := topS 12
abbrev N_is_name : List Str := ["text", "sign"]
theorem sc_is_name : FnScope N_is_name ["text"] (defScope s_is_name) := ⟨rfl, rfl, rfl, by decide +kernel, rfl, by decide +kernel, by decide +kernel⟩
def letters : Str := "abcdefghijklmnopqrstuvwxyz"
/-- a name of one to eight small letters -/
def nameB (x : Str) : Bool := decide (1 ≤ x.length) && (decide (x.length ≤ 8) && x.cps.toList.all fun c => decide (c ∈ letters.cps.toList))
def sp_is_name (Tb : List (Addr × Str)) (K : PySem.W.Frag) : Sp := fun vs H Q _ => ∃ x : Str, vs = [.str x] ∧ x.length ≤ 1000000 ∧ ∀ H', Gr Tb H H' → Q (.bl (nameB x)) H'
section
variable {P : Program} {w : World} {K : PySem.W.Frag} {mg : Str → Option Value} {base : Heap} {Tb : List (Addr × Str)}
theorem ok_is_name {f : Addr} {fd : FuncData} (F : FnP K "is_name" s_is_name f fd) (T : Tx K mg) : FnOk P w K mg base CX0 1 f fd ["text"] (sp_is_name Tb K) := by
  refine F.ok sc_is_name (fun vs H Q E h => ?_) (fun cdv A outer s H vs Q E hr h => ?_)
  · obtain ⟨_, rfl, _⟩ := h
    rfl
  · obtain ⟨x, rfl, hz, k⟩ := h
    refine ⟨_, PSs.nox (pss_one (ps_ret (pe_and (pe_chain op_le op_le pe_int (pe_callB call_len_str (by rfl) T.n_len (by decide +kernel) (pa_cons (pv 0) pa_nil)) (pe_gi T.c_MOST_LETTERS)) (pe_one (pe_callB (crAll (K := K) rfl rfl) (by rfl) T.n_all (by decide +kernel) (pa_cons (pe_lc (own := [("sign", 1)]) (g := (gName 1)) (tt := tYes) rfl sc_is_name.nd (pi_str (pv 0)) (blkOk_by (N := N_is_name) (sc := (defScope s_is_name)) (by decide +kernel)) (fun _ _ _ _ _ => (pg_name (i := 1) sc_is_name.nd rfl (Or.inl rfl))) (fun _ _ _ _ _ => pts_nil) (fun _ _ _ _ _ => (pe_cmpR op_in_sign (pv 1) (pe_gs T.c_LETTERS) rfl))) pa_nil)))))), ?_⟩
    refine ⟨_, rfl, x, rfl, Nat.le_trans hz (by decide), _, _, rfl, rfl, _, rfl, ?_⟩
    have k0 : ∀ b : Bool, nameB x = b → Q (.bl b) H := fun b e => by
      rw [← e]
      exact k H (Gr.refl H)
    refine ite2 (fun h1 => ?_) (fun h1 => ⟨_, rfl, iteF (k0 false ?_)⟩)
    · refine ⟨_, _, rfl, rfl, _, rfl, ite2 (fun h2 => ?_) (fun h2 => k0 false ?_)⟩
      · refine rd_allIn (Tb := Tb) rfl rfl (by show 1 < 2; decide) hz fun H' g => ?_
        have e : (x.cps.toList.all fun c => decide (c ∈ letters.cps.toList)) = nameB x := by
          unfold nameB
          rw [decide_eq_true (show 1 ≤ x.length by have := of_decide_eq_true h1; omega), decide_eq_true (show x.length ≤ 8 by have := of_decide_eq_true h2; omega)]
          rfl
        show Q (.bl (x.cps.toList.all fun c => decide (c ∈ letters.cps.toList))) H'
        rw [e]
        exact k H' g
      · have : ¬ x.length ≤ 8 := fun z => h2 (decide_eq_true (show (x.length : Int) ≤ 8 by omega))
        unfold nameB
        rw [decide_eq_false this]
        simp
    · have : ¬ 1 ≤ x.length := fun z => h1 (decide_eq_true (show (1 : Int) ≤ x.length by omega))
      unfold nameB
      rw [decide_eq_false this]
      rfl
end
end Sk
namespace Sk
open PySem PySem.Spec PyProof.Rows L2
abbrev s_is_entry : Stmt := topS 13
abbrev N_is_entry : List Str := ["entry", "earlier_names", "weights", "name", "weight", "parts", "part"]
theorem sc_is_entry : FnScope N_is_entry ["entry", "earlier_names", "weights"] (defScope s_is_entry) := ⟨rfl, rfl, rfl, by decide +kernel, rfl, by decide +kernel, by decide +kernel⟩
/-- an entry is valid, given the names ahead and all weights -/
def entB (e : Ent) (ahead : List Str) (ws : Num) : Bool := nameB e.name && (!decide (e.name ∈ ahead) && (!decide (e.w < 1) && e.parts.all fun p => match get? ws p with | some w => decide (w < e.w) | none => false))
def sp_is_entry (Tb : List (Addr × Str)) (K : PySem.W.Frag) : Sp := fun vs H Q _ => ∃ (v : V) (e : Ent) (l d : Addr) (ahead : List Str) (ws : Num), vs = [v, .ref l, .ref d] ∧ EntAt H v e ∧ H l = some (.lst (ahead.map V.str)) ∧ H d = some (.dK (dS ws)) ∧ e.name.length ≤ 1000000 ∧ e.parts.length ≤ 1000000 ∧ ∀ H', Gr Tb H H' → Q (.bl (entB e ahead ws)) H'
theorem flat_strs (l : List Str) : (l.map V.str).all flatV = true := by
  rw [List.all_map]
  exact List.all_eq_true.mpr fun _ _ => rfl
theorem inV_strs (x : Str) (l : List Str) : inV (.str x) (l.map V.str) = decide (x ∈ l) := by
  unfold inV
  rw [List.any_map]
  induction l with
  | nil => rfl
  | cons y l ih =>
    rw [List.any_cons, ih]
    show (eqV (V.str y) (V.str x) || _) = _
    have : eqV (V.str y) (V.str x) = decide (y = x) := by
      unfold eqV
      rfl
    rw [this]
    by_cases e : x = y
    · subst e
      simp
    · have e2 : ¬ y = x := fun z => e z.symm
      simp [e, e2]
section
variable {P : Program} {w : World} {K : PySem.W.Frag} {mg : Str → Option Value} {base : Heap} {Tb : List (Addr × Str)}
theorem ok_is_entry {f : Addr} {fd : FuncData} (F : FnP K "is_entry" s_is_entry f fd) (T : Tx K mg) (G_is_name : Fn P w K mg base "is_name" 1 ["text"] (sp_is_name Tb K)) : FnOk P w K mg base CX0 2 f fd ["entry", "earlier_names", "weights"] (sp_is_entry Tb K) := by
  refine F.ok sc_is_entry (fun vs H Q E h => ?_) (fun cdv A outer s H vs Q E hr h => ?_)
  · obtain ⟨_, _, _, _, _, _, rfl, _⟩ := h
    rfl
  · obtain ⟨v, e, l, d, ahead, ws, rfl, ⟨t, lp, rfl, ht, hlp⟩, hl, hd, hz, hz2, k⟩ := h
    refine ⟨_, PSs.nox (pss_cons (ps_asg (pv 0) (pg_tup rfl (pgs_cons (pg_name (i := 3) sc_is_entry.nd rfl (Or.inl rfl)) (pgs_cons (pg_name (i := 4) sc_is_entry.nd rfl (Or.inr rfl)) (pgs_cons (pg_name (i := 5) sc_is_entry.nd rfl (Or.inl rfl)) pgs_nil)))))
      (pss_cons (ps_if (PW.pt (pw_or (pt_not (pt_val (pe_fn G_is_name (hr.mono (by decide)) (pa_cons (pv 3) pa_nil)))) (pw_or (pt_cmpR (opIn (K := K) rfl) (pv 3) (pv 1) (by with_unfolding_all rfl)) (pw_or1 (pt_cmpR op_lt (pv 4) pe_int (nomark _)))))) (pss_one (ps_ret pe_bl)) pss_nil)
      (pss_one (ps_ret (pe_callB (crAll (K := K) rfl rfl) (by rfl) T.n_all (by decide +kernel) (pa_cons (pe_lc (own := [("part", 6)]) (g := (gName 6)) (tt := tYes) rfl sc_is_entry.nd (piL (K := K) rfl (pv 5)) (blkOk_by (N := N_is_entry) (sc := (defScope s_is_entry)) (by decide +kernel)) (fun _ _ _ _ _ => (pg_name (i := 6) sc_is_entry.nd rfl (Or.inl rfl))) (fun _ _ _ _ _ => pts_nil) (fun _ _ _ _ _ => (pe_and (pe_cmp (pc_din (hu_of hr) (pv 6) (pv 2))) (pe_one (pe_cmpR op_lt (pe_dget (hu_of hr) (pv 2) (pv 6) (fun _ _ => rfl)) (pv 4) (nomark _)))))) pa_nil)))))), ?_⟩
    refine ⟨_, rfl, gtup3 ht ?_⟩
    refine ⟨_, rfl, e.name, rfl, hz, fun H1 g1 => ⟨_, rfl, ?_⟩⟩
    have k0 : ∀ H' b, Gr Tb H H' → entB e ahead ws = b → Q (.bl b) H' := fun H' b g q => by
      rw [← q]
      exact k H' g
    show (if (!nameB e.name) = true then _ else _)
    refine ite2 (fun c1 => ?_) (fun c1 => ?_)
    · refine k0 _ _ g1 ?_
      unfold entB
      rw [Bool.not_eq_true'] at c1
      rw [c1]
      rfl
    have n1 : nameB e.name = true := by simpa using c1
    refine ⟨_, rfl, _, rfl, l, _, rfl, .inl (SqL.of (g1.at hl .lst)), rfl, flat_strs _, _, rfl, ?_⟩
    rw [inV_strs]
    refine ite2 (fun c2 => ?_) (fun c2 => ?_)
    · refine k0 _ _ g1 ?_
      unfold entB
      have : decide (e.name ∈ ahead) = true := c2
      rw [n1, this]
      rfl
    have n2 : decide (e.name ∈ ahead) = false := by simpa using c2
    refine ⟨_, rfl, _, _, rfl, rfl, _, rfl, ?_⟩
    refine ite2 (fun c3 => ?_) (fun c3 => ?_)
    · refine k0 _ _ g1 ?_
      unfold entB
      have : decide (e.w < 1) = true := c3
      rw [n1, n2, this]
      rfl
    have n3 : decide (e.w < 1) = false := by simpa using c3
    refine ⟨_, rfl, lp, rfl, ⟨_, SqL.of (g1.at hlp .lst)⟩, fun D hD => lc_fm (Tb := Tb) (xs := e.parts.map V.str) walk_list rfl (fun v => match v with | .str p => some (.bl (match get? ws p with | some w => decide (w < e.w) | none => false)) | _ => none) hD ?_ (fun H' g => SqL.of ((g1.trans g).at hlp .lst)) (fun j v H' hv g Rk Rs hk hs => ?_) fun H' g hD' => ?_⟩
    · rw [List.length_map]
      omega
    · rw [List.getElem?_map] at hv
      cases hc : e.parts[j]? with
      | none =>
        rw [hc] at hv
        cases hv
      | some p =>
        rw [hc] at hv
        cases hv
        have hd' := (g1.trans g).at hd .dK
        refine ⟨rfl, _, rfl, _, rfl, d, _, rfl, DGet.k (k := Sum.inr p) hd', _, rfl, ?_⟩
        rw [valV_dS]
        cases hg : get? ws p with
        | none => exact hk _ _ (by simp only [hg]) (Gr.refl _)
        | some w =>
          have dg : DGet H' d (V.str p) (some (V.int w)) := by
            have z := DGet.k (k := Sum.inr p) hd'
            rw [valV_dS, hg] at z
            exact z
          refine ⟨_, rfl, _, rfl, d, _, rfl, dg, _, rfl, _, _, rfl, rfl, hk _ _ ?_ (Gr.refl _)⟩
          simp only [hg]
    · refine ⟨D, e.parts.map fun p => match get? ws p with | some w => decide (w < e.w) | none => false, rfl, ?_, ?_⟩
      · have e1 : (e.parts.map V.str).filterMap (fun v => match v with | .str p => some (V.bl (match get? ws p with | some w => decide (w < e.w) | none => false)) | _ => none) = (e.parts.map fun p => match get? ws p with | some w => decide (w < e.w) | none => false).map V.bl := by
          rw [List.filterMap_map, List.map_map, ← List.filterMap_eq_map]
          rfl
        rw [e1] at hD'
        exact SqL.of hD'
      · refine k0 _ _ (g1.trans g) ?_
        unfold entB
        rw [n1, n2, n3, List.all_map]
        rfl
end
end Sk
namespace Sk
open PySem PySem.Spec PyProof.Rows L2
/-- a valid catalogue -/
structure Valid (es : List Ent) : Prop where
  ne : es ≠ []
  names : ∀ e ∈ es, nameB e.name = true
  nodup : (es.map (·.name)).Nodup
  pos : ∀ e ∈ es, 1 ≤ e.w
  lighter : ∀ e ∈ es, ∀ p ∈ e.parts, ∃ e' ∈ es, e'.name = p ∧ e'.w < e.w
  few : es.length ≤ 100000
  fewp : ∀ e ∈ es, e.parts.length ≤ 100000
theorem Valid.known {es : List Ent} (v : Valid es) : ∀ e ∈ es, ∀ p ∈ e.parts, p ∈ es.map (·.name) := fun e he p hp => by
  obtain ⟨e', h1, h2, _⟩ := v.lighter e he p hp
  exact List.mem_map.mpr ⟨e', h1, h2⟩
theorem Valid.perm {es es' : List Ent} (p : es'.Perm es) (v : Valid es) : Valid es' :=
  ⟨fun z => v.ne (by subst z; exact (List.nil_perm.mp p)), fun e he => v.names e (p.mem_iff.mp he), ((p.map _).nodup_iff).mpr v.nodup, fun e he => v.pos e (p.mem_iff.mp he),
    fun e he q hq => by
      obtain ⟨e', h1, h2⟩ := v.lighter e (p.mem_iff.mp he) q hq
      exact ⟨e', p.mem_iff.mpr h1, h2⟩, by rw [p.length_eq]; exact v.few, fun e he => v.fewp e (p.mem_iff.mp he)⟩
/-- the weights of all names: the first of each -/
def fw (es : List Ent) : Num := es.foldl (fun d e => if e.name ∈ d.map (·.1) then d else d ++ [(e.name, e.w)]) []
/-- all entries ahead of this one are fine -/
def FineTo (es : List Ent) (i : Nat) : Prop := ∀ j e, j < i → es[j]? = some e → entB e ((es.take j).map (·.name)) (fw es) = true
def BadCat (es : List Ent) (i : Nat) : Prop := (es = [] ∧ i = 0) ∨ ∃ e, es[i]? = some e ∧ entB e ((es.take i).map (·.name)) (fw es) = false ∧ FineTo es i
def sp_check_catalogue (Tb : List (Addr × Str)) (K : PySem.W.Frag) : Sp := fun vs H Q E => ∃ (a : Addr) (xs : List V) (es : List Ent), vs = [.ref a] ∧ SqL K H a xs ∧ CatAt H xs es ∧ es.length ≤ 100000 ∧ (∀ e ∈ es, e.name.length ≤ 1000000 ∧ e.parts.length ≤ 100000) ∧ (Valid es → ∀ H', Gr Tb H H' → Q .non H') ∧
  (∀ (i : Nat) dd H', BadCat es i → Gr Tb H H' → H' dd = some (.xd [("value", .int i)]) → E (.ref (He.ga K "InvalidCatalogue")) (some dd) H')
/-- the weights by name -/
def wts (es : List Ent) : Num := es.map fun e => (e.name, e.w)
theorem get_none {d : Num} {x : Str} (h : x ∉ d.map (·.1)) : get? d x = none := by
  unfold get?
  rw [List.find?_eq_none.mpr fun q hq => by
    rw [decide_eq_true_eq]
    exact fun e => h (List.mem_map.mpr ⟨q, hq, e⟩)]
  rfl
theorem get_some {d : Num} {x : Str} {i : Int} (nd : (d.map (·.1)).Nodup) (h : (x, i) ∈ d) : get? d x = some i := by
  unfold get?
  induction d with
  | nil => cases h
  | cons q d ih =>
    rw [List.map_cons, List.nodup_cons] at nd
    rcases List.mem_cons.mp h with e | h
    · subst e
      simp
    · have : q.1 ≠ x := fun e => nd.1 (List.mem_map.mpr ⟨_, h, e.symm⟩)
      rw [List.find?_cons_of_neg (by simpa using this)]
      exact ih nd.2 h
theorem put_new {d : Num} {x : Str} {i : Int} (h : x ∉ d.map (·.1)) : put d x i = d ++ [(x, i)] := by
  unfold put
  rw [if_neg]
  rw [List.any_eq_true]
  rintro ⟨q, hq, e⟩
  exact h (List.mem_map.mpr ⟨q, hq, by simpa using e⟩)
theorem wts_names (es : List Ent) : (wts es).map (·.1) = es.map (·.name) := by
  unfold wts
  rw [List.map_map]
  rfl
theorem take_notin {es : List Ent} (nd : (es.map (·.name)).Nodup) {i : Nat} {e : Ent} (h : es[i]? = some e) : e.name ∉ (es.take i).map (·.name) := by
  intro hm
  rw [List.map_take] at hm
  obtain ⟨j, hj⟩ := List.mem_iff_getElem?.mp hm
  have h1 : (es.map (·.name))[i]? = some e.name := by rw [List.getElem?_map, h]; rfl
  have hji : j < i := by
    rcases Nat.lt_or_ge j i with q | q
    · exact q
    · rw [List.getElem?_take, if_neg (by omega)] at hj
      cases hj
  rw [List.getElem?_take_of_lt hji] at hj
  have := nodup_ix nd hj h1
  omega
theorem take_snoc {α : Type} {es : List α} {i : Nat} {e : α} (h : es[i]? = some e) : es.take (i + 1) = es.take i ++ [e] := by
  rw [List.take_add_one, h]
  rfl
theorem len_ok {x : Str} (h : nameB x = true) : x.length ≤ 8 := by
  unfold nameB at h
  simp only [Bool.and_eq_true, decide_eq_true_eq] at h
  exact h.2.1
theorem entB_valid {es : List Ent} (v : Valid es) {i : Nat} {e : Ent} (h : es[i]? = some e) : entB e ((es.take i).map (·.name)) (wts es) = true := by
  have hm := List.mem_of_getElem? h
  unfold entB
  rw [v.names e hm, decide_eq_false (take_notin v.nodup h), decide_eq_false (show ¬ e.w < 1 by have := v.pos e hm; omega)]
  simp only [Bool.not_false, Bool.true_and, List.all_eq_true]
  intro p hp
  obtain ⟨e', he', hn, hw⟩ := v.lighter e hm p hp
  have : get? (wts es) p = some e'.w := get_some (by rw [wts_names]; exact v.nodup) (by rw [← hn]; exact List.mem_map.mpr ⟨e', he', rfl⟩)
  rw [this]
  simpa using hw
end Sk
namespace Sk
open PySem PySem.Spec PyProof.Rows L2
theorem fw_snoc (l : List Ent) (e : Ent) : fw (l ++ [e]) = if e.name ∈ (fw l).map (·.1) then fw l else fw l ++ [(e.name, e.w)] := by
  unfold fw
  rw [List.foldl_append]
  rfl
theorem fw_len (es : List Ent) : (fw es).length ≤ es.length := by
  have key : ∀ (l : List Ent) (d : Num), (l.foldl (fun d e => if e.name ∈ d.map (·.1) then d else d ++ [(e.name, e.w)]) d).length ≤ d.length + l.length := by
    intro l
    induction l with
    | nil => intro d; exact Nat.le_refl _
    | cons e l ih =>
      intro d
      rw [List.foldl_cons, List.length_cons]
      refine Nat.le_trans (ih _) ?_
      split
      · omega
      · rw [List.length_append, List.length_singleton]
        omega
  have := key es []
  rw [List.length_nil, Nat.zero_add] at this
  exact this
theorem mem_names (d : Num) (x : Str) : x ∈ d.map (·.1) ↔ get? d x ≠ none := by
  constructor
  · intro h z
    obtain ⟨q, hq, rfl⟩ := List.mem_map.mp h
    unfold get? at z
    rw [Option.map_eq_none_iff, List.find?_eq_none] at z
    exact z q hq (decide_eq_true rfl)
  · intro h
    exact Decidable.byContradiction fun z => h (get_none z)
theorem find_one {α : Type} (p : α → Bool) (x : α) : [x].find? p = if p x = true then some x else none := by
  cases h : p x with
  | true =>
    rw [List.find?_cons_of_pos h]
    rfl
  | false =>
    rw [List.find?_cons_of_neg (by rw [h]; decide)]
    rfl
theorem get_snoc (d : Num) (q : Str × Int) (x : Str) : get? (d ++ [q]) x = (get? d x).or (if q.1 = x then some q.2 else none) := by
  unfold get?
  rw [List.find?_append]
  cases h : d.find? fun q => decide (q.1 = x) with
  | some y => rfl
  | none =>
    rw [find_one]
    by_cases z : q.1 = x
    · rw [if_pos z, if_pos (decide_eq_true z)]
      rfl
    · rw [if_neg z, if_neg (by simpa using z)]
      rfl
theorem fw_snocG (es : List Ent) (e : Ent) (x : Str) : get? (fw (es ++ [e])) x = (get? (fw es) x).or (if e.name = x then some e.w else none) := by
  rw [fw_snoc]
  by_cases h : e.name ∈ (fw es).map (·.1)
  · rw [if_pos h]
    by_cases z : e.name = x
    · cases hg : get? (fw es) x with
      | some w => rfl
      | none => exact absurd (z ▸ hg) ((mem_names _ _).mp h)
    · rw [if_neg z, Option.or_none]
  · rw [if_neg h, get_snoc]
theorem fw_get : ∀ (n : Nat) (es : List Ent), es.length = n → ∀ x, get? (fw es) x = (es.find? fun e => decide (e.name = x)).map (·.w)
  | 0, es, h, x => by
    obtain rfl := List.length_eq_zero_iff.mp h
    rfl
  | n + 1, es, h, x => by
    obtain ⟨l, e, rfl⟩ : ∃ l e, es = l ++ [e] := ⟨es.dropLast, es.getLast (fun z => by rw [z] at h; cases h), (List.dropLast_concat_getLast _).symm⟩
    rw [List.length_append] at h
    have hl : l.length = n := by simpa using h
    rw [fw_snocG, fw_get n l hl x, List.find?_append]
    cases hf : l.find? fun e => decide (e.name = x) with
    | some y => rfl
    | none =>
      rw [find_one]
      by_cases z : e.name = x
      · rw [if_pos z, if_pos (decide_eq_true z)]
        rfl
      · rw [if_neg z, if_neg (by simpa using z)]
        rfl
theorem entB_congr {e : Ent} {a a2 : List Str} {ws vs : Num} (ha : ∀ x, x ∈ a ↔ x ∈ a2) (h : ∀ x, get? ws x = get? vs x) : entB e a ws = entB e a2 vs := by
  unfold entB
  have : decide (e.name ∈ a) = decide (e.name ∈ a2) := decide_eq_decide.mpr (ha _)
  rw [this]
  simp only [h]
theorem fw_wts {es : List Ent} (nd : (es.map (·.name)).Nodup) : ∀ x, get? (fw es) x = get? (wts es) x := fun x => by
  rw [fw_get _ es rfl]
  cases hf : es.find? fun e => decide (e.name = x) with
  | none =>
    rw [get_none]
    · rfl
    · rw [wts_names]
      intro h
      obtain ⟨e, he, rfl⟩ := List.mem_map.mp h
      exact List.find?_eq_none.mp hf e he (decide_eq_true rfl)
  | some e =>
    have h1 := List.mem_of_find?_eq_some hf
    have h2 := of_decide_eq_true (List.find?_some (p := fun e : Ent => decide (e.name = x)) hf)
    rw [get_some (by rw [wts_names]; exact nd) (show (x, e.w) ∈ wts es by rw [← h2]; exact List.mem_map.mpr ⟨e, h1, rfl⟩)]
    rfl
theorem Valid.fine {es : List Ent} (v : Valid es) (i : Nat) : FineTo es i := fun j e _ he => by
  rw [entB_congr (fun _ => Iff.rfl) (fw_wts v.nodup)]
  exact entB_valid v he
theorem valid_of {es : List Ent} (ne : es ≠ []) (f : FineTo es es.length) (few : es.length ≤ 100000) (fewp : ∀ e ∈ es, e.parts.length ≤ 100000) : Valid es := by
  have key : ∀ j e, es[j]? = some e → nameB e.name = true ∧ e.name ∉ (es.take j).map (·.name) ∧ 1 ≤ e.w ∧ ∀ p ∈ e.parts, ∃ w, get? (fw es) p = some w ∧ w < e.w := fun j e he => by
    have h := f j e (List.getElem?_eq_some_iff.mp he).1 he
    unfold entB at h
    simp only [Bool.and_eq_true, Bool.not_eq_true', decide_eq_false_iff_not, List.all_eq_true] at h
    obtain ⟨h1, h2, h3, h4⟩ := h
    refine ⟨h1, h2, by omega, fun p hp => ?_⟩
    have := h4 p hp
    cases hg : get? (fw es) p with
    | none => rw [hg] at this; cases this
    | some w => rw [hg] at this; exact ⟨w, rfl, of_decide_eq_true this⟩
  have ix : ∀ e ∈ es, ∃ j, es[j]? = some e := fun e he => List.mem_iff_getElem?.mp he
  refine ⟨ne, fun e he => ?_, ?_, fun e he => ?_, fun e he p hp => ?_, few, fewp⟩
  · obtain ⟨j, hj⟩ := ix e he
    exact (key j e hj).1
  · refine List.pairwise_iff_getElem.mpr fun i j hi hj hij hz => ?_
    rw [List.length_map] at hj hi
    have ej : es[j]? = some es[j] := List.getElem?_eq_getElem hj
    have ei : es[i]? = some es[i] := List.getElem?_eq_getElem (by omega)
    refine (key j _ ej).2.1 ?_
    rw [List.getElem_map, List.getElem_map] at hz
    rw [← hz]
    exact List.mem_map.mpr ⟨es[i], List.mem_iff_getElem?.mpr ⟨i, by rw [List.getElem?_take_of_lt hij]; exact ei⟩, rfl⟩
  · obtain ⟨j, hj⟩ := ix e he
    exact (key j e hj).2.2.1
  · obtain ⟨j, hj⟩ := ix e he
    obtain ⟨w, h1, h2⟩ := (key j e hj).2.2.2 p hp
    rw [fw_get _ es rfl] at h1
    cases hf : es.find? fun e => decide (e.name = p) with
    | none => rw [hf] at h1; cases h1
    | some e' =>
      rw [hf] at h1
      exact ⟨e', List.mem_of_find?_eq_some hf, of_decide_eq_true (List.find?_some (p := fun e : Ent => decide (e.name = p)) hf), by rw [show e'.w = w from Option.some.inj h1]; exact h2⟩
theorem BadCat.notValid {es : List Ent} {i : Nat} (b : BadCat es i) (v : Valid es) : False := by
  rcases b with ⟨h, _⟩ | ⟨e, h1, h2, _⟩
  · exact v.ne h
  · have := v.fine (i + 1) i e (by omega) h1
    rw [h2] at this
    cases this
theorem BadCat.uniq {es : List Ent} {i j : Nat} (b : BadCat es i) (c : BadCat es j) : i = j := by
  have key : ∀ {i j : Nat} {e : Ent}, es[i]? = some e → entB e ((es.take i).map (·.name)) (fw es) = false → FineTo es j → ¬ i < j := fun {i j e} h1 h2 h3 z => by
    have := h3 i e z h1
    rw [h2] at this
    cases this
  rcases b with ⟨h, rfl⟩ | ⟨e, h1, h2, h3⟩
  · rcases c with ⟨_, rfl⟩ | ⟨e, h1, _⟩
    · rfl
    · rw [h] at h1
      simp at h1
  · rcases c with ⟨h, _⟩ | ⟨e', g1, g2, g3⟩
    · rw [h] at h1
      simp at h1
    · have a := key h1 h2 g3
      have b := key g1 g2 h3
      omega
theorem cat_cases (es : List Ent) (few : es.length ≤ 100000) (fewp : ∀ e ∈ es, e.parts.length ≤ 100000) : Valid es ∨ ∃ i, BadCat es i := by
  by_cases z : es = []
  · exact .inr ⟨0, .inl ⟨z, rfl⟩⟩
  · have key : ∀ n : Nat, FineTo es n ∨ ∃ i, BadCat es i := by
      intro n
      induction n with
      | zero => exact .inl fun _ _ h => absurd h (Nat.not_lt_zero _)
      | succ n ih =>
        rcases ih with f | b
        · cases he : es[n]? with
          | none =>
            refine .inl fun j e h hj => ?_
            rcases Nat.lt_succ_iff_lt_or_eq.mp h with h | rfl
            · exact f j e h hj
            · rw [he] at hj; cases hj
          | some e =>
            cases hb : entB e ((es.take n).map (·.name)) (fw es) with
            | false => exact .inr ⟨n, .inr ⟨e, he, hb, f⟩⟩
            | true =>
              refine .inl fun j e' h hj => ?_
              rcases Nat.lt_succ_iff_lt_or_eq.mp h with h | rfl
              · exact f j e' h hj
              · rw [he] at hj
                cases hj
                exact hb
        · exact .inr b
    rcases key es.length with f | b
    · exact .inl (valid_of z f few fewp)
    · exact .inr b
end Sk
namespace Sk
open PySem PySem.Spec PyProof.Rows L2
abbrev s_check_catalogue : Stmt := topS 14
abbrev N_check_catalogue : List Str := ["catalogue", "weights", "earlier_names", "name", "weight", "parts", "index", "entry"]
theorem sc_check_catalogue : FnScope N_check_catalogue ["catalogue"] (defScope s_check_catalogue) := ⟨rfl, rfl, rfl, by decide +kernel, rfl, by decide +kernel, by decide +kernel⟩
section
variable {P : Program} {w : World} {K : PySem.W.Frag} {mg : Str → Option Value} {base : Heap} {Tb : List (Addr × Str)}
theorem ok_check_catalogue {f : Addr} {fd : FuncData} (F : FnP K "check_catalogue" s_check_catalogue f fd) (T : Tx K mg) (XC_InvalidCatalogue : Xc P w K mg base "InvalidCatalogue") (G_is_entry : Fn P w K mg base "is_entry" 2 ["entry", "earlier_names", "weights"] (sp_is_entry Tb K)) : FnOk P w K mg base (L2N.CX P w) 3 f fd ["catalogue"] (sp_check_catalogue Tb K) := by
  refine F.ok (CX := L2N.CX P w) sc_check_catalogue (fun vs H Q E h => ?_) (fun cdv A outer s H vs Q E hr h => ?_)
  · obtain ⟨_, _, _, rfl, _⟩ := h
    rfl
  · obtain ⟨a, xs, es, rfl, ha, hc, hz, hsz, k1, k2⟩ := h
    refine ⟨_, (pss_cons (ps_if (pt_cmpR (opEqNil (K := K) rfl hr.units) (pv 0) (pe_lst pa_nil) (nomark _)) (pss_one (L2N.ps_raise rfl (L2N.takes_of rfl rfl rfl rfl) (pmk_xc XC_InvalidCatalogue (hr.mono (by decide)) (pa_cons pe_int pa_nil)))) pss_nil)
      (pss_cons (ps_set (i := 1) sc_check_catalogue.nd rfl (Or.inl rfl) pe_dnewK)
      (pss_cons (ps_for (passes_of rfl) rfl (piL (K := K) rfl (pv 0)) (pg_tup rfl (pgs_cons (pg_name (i := 3) sc_check_catalogue.nd rfl (Or.inl rfl)) (pgs_cons (pg_name (i := 4) sc_check_catalogue.nd rfl (Or.inl rfl)) (pgs_cons (pg_name (i := 5) sc_check_catalogue.nd rfl (Or.inl rfl)) pgs_nil)))) (pss_one (ps_expr (pe_dsetd (pv 1) (pv 3) (pv 4) ⟨rfl, rfl, rfl, rfl⟩))))
      (pss_cons (ps_set (i := 2) sc_check_catalogue.nd rfl (Or.inl rfl) (pe_lst pa_nil))
      (pss_one (ps_for (passes_of rfl) rfl (piEnum (K := K) rfl (by rfl) T.n_enumerate (pa_cons (pv 0) pa_nil)) (pg_tup rfl (pgs_cons (pg_name (i := 6) sc_check_catalogue.nd rfl (Or.inl rfl)) (pgs_cons (pg_name (i := 7) sc_check_catalogue.nd rfl (Or.inl rfl)) pgs_nil))) (pss_cons (ps_if (pt_not (pt_val (pe_fn G_is_entry (hr.mono (by decide)) (pa_cons (pv 7) (pa_cons (pv 2) (pa_cons (pv 1) pa_nil)))))) (pss_one (L2N.ps_raise rfl (L2N.takes_of rfl rfl rfl rfl) (pmk_xc XC_InvalidCatalogue (hr.mono (by decide)) (pa_cons (pv 6) pa_nil)))) pss_nil)
        (pss_one (ps_expr (peBm (K := K) rfl PySem.F.plainAttrs_list PySem.F.slot_list_append PySem.F.type_list_append mt_append (pv 2) (pa_cons (pe_ix (ixT (K := K) rfl) (pv 7) pe_int (fun _ _ => rfl)) pa_nil))))))))))), ?_⟩
    have hlen := Paired.len hc
    refine ⟨_, rfl, rd_nil ha fun p hp => ⟨_, rfl, ?_⟩⟩
    refine ite2 (fun he => ?_) (fun he => ?_)
    · have e0 : es = [] := by
        cases xs with
        | nil => cases hc; rfl
        | cons _ _ => cases he
      exact ⟨_, rfl, fun dd hdd => k2 0 dd _ (.inl ⟨e0, rfl⟩) ((Gr.new hp).trans (Gr.new hdd)) upd_same⟩
    have ne : es ≠ [] := fun z => by
      subst z
      cases hc
      exact he rfl
    intro d hd
    have hd0 : Nw H d := (Gr.new (T := Tb) hp).nw (.of hd)
    have g0 : Gr Tb H (upd (upd H p (.lst [])) d (.dK [])) := (Gr.new hp).trans (Gr.new hd)
    refine ⟨_, rfl, a, rfl, ⟨_, (g0.ext_seq ha)⟩, for_list (K := K) (a := a) (xs := xs) (fun i σ H' => ∃ s3 s4 s5 : Option V, σ = [some (.ref a), some (.ref d), none, s3, s4, s5, none, none] ∧ Gr Tb H H' ∧ H' d = some (.dK (dS (fw (es.take i)))))
      ⟨none, none, none, rfl, g0, upd_same⟩ (fun i σ H' _ ⟨_, _, _, _, g, _⟩ => g.ext_seq ha) ?_ ?_⟩
    · rintro i x σ H' hx ⟨s3, s4, s5, rfl, g, hdd⟩
      obtain ⟨e, he, t, lp, rfl, ht, hlp⟩ := Paired.at hc hx
      have hfl := fw_len (es.take i)
      rw [List.length_take] at hfl
      refine gtup3 (g.at ht .tup) ⟨_, rfl, d, rfl, .inl ⟨_, .inl hdd⟩, _, rfl, _, rfl, _, Sum.inr e.name, hdd, rfl, ?_, ?_, ?_⟩
      · rw [dS_len, sizeLine_eq]
        omega
      · intro v hv'
        rw [valV_dS] at hv'
        refine ⟨_, _, _, rfl, g, ?_⟩
        rw [take_snoc he, fw_snoc, if_pos ((mem_names _ _).mpr fun z => by rw [z] at hv'; cases hv')]
        exact hdd
      · intro hn
        rw [valV_dS] at hn
        have nn : e.name ∉ (fw (es.take i)).map (·.1) := fun z => (mem_names _ _).mp z (by
          cases hg : get? (fw (es.take i)) e.name with
          | none => rfl
          | some w => rw [hg] at hn; cases hn)
        refine ⟨_, _, _, rfl, g.mut hd0 hdd .dK, ?_⟩
        rw [upd_same, putK_dS, put_new nn, take_snoc he, fw_snoc, if_neg nn]
    · rintro σ H' ⟨s3, s4, s5, rfl, g, hdd⟩
      rw [hlen, List.take_length] at hdd
      refine ⟨Nat.zero_le _, fun l hl => ?_⟩
      have dl : d ≠ l := ne_of_none hdd hl
      have hl0 : Nw H l := g.nw (.of hl)
      have g1 : Gr Tb H (upd H' l (.lst [])) := g.trans (Gr.new hl)
      refine ⟨_, rfl, a, xs, rfl, g1.ext_seq ha, for_it (walk_enum (xs := xs)) (fun i σ H' => ∃ s3 s4 s5 s6 s7 : Option V, σ = [some (.ref a), some (.ref d), some (.ref l), s3, s4, s5, s6, s7] ∧ Gr Tb H H' ∧ H' d = some (.dK (dS (fw es))) ∧ H' l = some (.lst (((es.take i).map (·.name)).map V.str)) ∧ FineTo es i)
        ⟨_, _, _, _, _, rfl, g1, by rw [upd_ne dl]; exact hdd, by rw [upd_same]; rfl, fun j e h => absurd h (Nat.not_lt_zero _)⟩ (fun i σ H' _ ⟨_, _, _, _, _, _, g, _⟩ => g.ext_seq ha) ?_ ?_⟩
      · rintro i x σ H1 H2 hi ⟨s3, s4, s5, s6, s7, rfl, g2, hdd, hll, fine⟩ ⟨T, x1, x2, rfl, hT, rfl, e1, e2⟩
        cases e1
        obtain ⟨e, he, t, lp, rfl, ht, hlp⟩ := Paired.at hc e2
        have hm := List.mem_of_getElem? he
        obtain ⟨z1, z2⟩ := hsz e hm
        have hi' := (List.getElem?_eq_some_iff.mp he).1
        have g3' : Gr Tb H (upd H1 T (.tup [.int (i : Nat), .ref t])) := g2.trans (Gr.new hT)
        have hd3 : upd H1 T (.tup [.int (i : Nat), .ref t]) d = _ := (upd_ne (ne_of_none hdd hT)).trans hdd
        have hl3 : upd H1 T (.tup [.int (i : Nat), .ref t]) l = _ := (upd_ne (ne_of_none hll hT)).trans hll
        refine gtup2 upd_same ?_
        refine ⟨_, rfl, _, rfl, _, rfl, .ref t, e, l, d, _, _, rfl, ⟨t, lp, rfl, g3'.at ht .tup, g3'.at hlp .lst⟩, hl3, hd3, z1, Nat.le_trans z2 (by decide), fun H4 g4 => ⟨_, rfl, ?_⟩⟩
        have g5 := g3'.trans g4
        cases hb : entB e ((es.take i).map (·.name)) (fw es) with
        | false =>
          exact ⟨_, rfl, _, rfl, fun dd hdd => k2 i dd _ (.inr ⟨e, he, hb, fine⟩) (g5.trans (Gr.new hdd)) upd_same⟩
        | true =>
          have hl5 := g4.at hl3 .lst
          refine ⟨_, rfl, .inl ⟨rfl, _, SqL.of hl5⟩, _, rfl, t, _, _, _, rfl, rfl, SqT.of (g5.at ht .tup), atI_nat (j := 0) rfl, l, _, _, rfl, rfl, hl5, ?_, ?_⟩
          · rw [List.length_map, List.length_map, List.length_take, sizeLine_eq]
            omega
          · refine ⟨_, _, _, _, _, rfl, g5.mut hl0 hl5 .lst, ?_, ?_, ?_⟩
            · rw [upd_ne dl]
              exact g4.at hd3 .dK
            · rw [upd_same, take_snoc he, List.map_append, List.map_append]
              rfl
            · intro j e' h hj
              rcases Nat.lt_succ_iff_lt_or_eq.mp h with h | rfl
              · exact fine j e' h hj
              · rw [he] at hj
                cases hj
                exact hb
      · rintro σ H1 ⟨s3, s4, s5, s6, s7, rfl, g2, hdd, hll, fine⟩
        rw [hlen] at fine
        exact k1 (valid_of ne fine hz fun e he => (hsz e he).2) H1 g2
end
end Sk
namespace Sk
open PySem PySem.Spec PyProof.Rows L2
abbrev s_ordered : Stmt := topS 15
abbrev N_ordered : List Str := ["catalogue"]
theorem sc_ordered : FnScope N_ordered ["catalogue"] (defScope s_ordered) := ⟨rfl, rfl, rfl, by decide +kernel, rfl, by decide +kernel, by decide +kernel⟩
/-- what a kind's place is found by: greater weights first, then names -/
def Ent.key (e : Ent) : Int × Str := (0 - e.w, e.name)
/-- from the largest kind to the smallest -/
def Ordered (es : List Ent) : Prop := SrtO.Srtd (fun x y : Ent => kLt x.key y.key) es
def sp_ordered (Tb : List (Addr × Str)) (K : PySem.W.Frag) : Sp := fun vs H Q _ => ∃ (a : Addr) (xs : List V) (es : List Ent), vs = [.ref a] ∧ SqL K H a xs ∧ CatAt H xs es ∧ LamX.Tabs Tb H ∧ es.length ≤ 100000 ∧
  ∀ r H' ys es', es'.Perm es → Ordered es' → CatAt H ys es' → Gr Tb H H' → H' r = none → Q (.ref r) (upd H' r (.lst ys))
/-- the key of the entry that stands at v -/
def vKey (H : Hp) : V → Int × Str
  | .ref t => match H t with
    | some (.tup [.str n, .int w, _]) => (0 - w, n)
    | _ => (0, Str.empty)
  | _ => (0, Str.empty)
theorem vKey_at {H : Hp} {v : V} {e : Ent} (h : EntAt H v e) : vKey H v = e.key := by
  obtain ⟨t, l, rfl, ht, _⟩ := h
  show (match H t with
    | some (.tup [.str n, .int w, _]) => (0 - w, n)
    | _ => (0, Str.empty)) = _
  rw [ht]
  rfl
theorem ordered_of {H : Hp} : ∀ {ys : List V} {es : List Ent}, CatAt H ys es → SrtO.Srtd (fun x y => kLt (vKey H x) (vKey H y)) ys → Ordered es
  | _, _, .nil, _ => List.Pairwise.nil
  | y :: ys, e :: es, .cons h t, s => by
    obtain ⟨s1, s2⟩ := List.pairwise_cons.mp s
    refine List.pairwise_cons.mpr ⟨fun e' he' => ?_, ordered_of t s2⟩
    obtain ⟨y', hy', h'⟩ := Paired.right t he'
    have z : kLt (vKey H y') (vKey H y) = false := s1 y' hy'
    rw [vKey_at h, vKey_at h'] at z
    exact z
theorem ordered_unique : ∀ {xs ys : List Ent}, xs.Perm ys → Ordered xs → Ordered ys → (xs.map (·.name)).Nodup → xs = ys
  | [], ys, p, _, _, _ => (List.nil_perm.mp p).symm
  | x :: xs, [], p, _, _, _ => absurd p.length_eq (by simp)
  | x :: xs, y :: ys, p, ox, oy, nd => by
    obtain ⟨x1, x2⟩ := List.pairwise_cons.mp ox
    obtain ⟨y1, y2⟩ := List.pairwise_cons.mp oy
    rw [List.map_cons, List.nodup_cons] at nd
    have e : x = y := by
      rcases List.mem_cons.mp (p.mem_iff.mp (List.mem_cons_self ..)) with e | hx
      · exact e
      · rcases List.mem_cons.mp (p.mem_iff.mpr (List.mem_cons_self ..)) with e | hy
        · exact e.symm
        · have h1 : kLt y.key x.key = false := x1 y hy
          have h2 : kLt x.key y.key = false := y1 x hx
          have h3 : y.name = x.name := (Prod.mk.inj (kLt_total h1 h2)).2
          exact absurd (List.mem_map.mpr ⟨y, hy, h3⟩) nd.1
    subst e
    rw [ordered_unique ((List.perm_cons x).mp p) x2 y2 nd.2]
section
variable {P : Program} {w : World} {K : PySem.W.Frag} {mg : Str → Option Value} {base : Heap} {Tb : List (Addr × Str)}
theorem ok_ordered {f : Addr} {fd : FuncData} (F : FnP K "ordered" s_ordered f fd) (T : Tx K mg)  {c Pt : Addr} (LC : ∀ fd2 oc od osl, K.lookup f = some ⟨oc, od, .func fd2, osl⟩ → fd2.code = .ref c) (TB : LamX.TabB base mg c Pt) (hmT : (Pt, ("ordered.<locals>.<lambda>" : Str)) ∈ Tb) (huT : ∀ p ∈ Tb, p.1 = Pt → p.2 = ("ordered.<locals>.<lambda>" : Str)) : FnOk P w K mg base CX0 4 f fd ["catalogue"] (sp_ordered Tb K) := by
  obtain ⟨oc, od, dV, kV, doc, pm, an, cdv, ct, osl, rfl, lk, hcd, _, _⟩ := F.ex
  obtain rfl : cdv = .ref c := LC _ _ _ _ lk
  refine fn_of lk hcd sc_ordered (fun vs H Q E h => ?_) fun A outer s H vs Q E hr h => ?_
  · obtain ⟨_, _, _, rfl, _⟩ := h
    rfl
  · obtain ⟨a, xs, es, rfl, ha, hc, ht, hz, k⟩ := h
    have hcode : ∀ (A : Around) (outer : List Env) (s : Shared) (H : Hp) (E : XK), (cxOf CX0 P w K mg base N_ordered "ordered" (defScope s_ordered) f (.ref c) A outer s H E).env.code = .ref c := fun _ _ _ _ _ => rfl
    refine ⟨_, PSs.nox (pss_one (ps_ret (pe_sortLam (k := 0) (tk := tTup (tCons (tOp (rI0 fun i j => .int (i - j)) (tC (.int 0)) (tOp (rIxT K) (tVar 0) (tC (.int 1)))) (tCons (tOp (rIxT K) (tVar 0) (tC (.int 0))) tNil))) (N := ["entry"]) (ps := ["entry"]) (by rfl) T.n_sorted (hr.mono (by decide)) TB rfl hmT huT ⟨rfl, rfl, rfl, by decide +kernel, rfl, by decide +kernel, by decide +kernel⟩ rfl (fun _ => rfl) rfl (fun _ _ _ _ us hl => match us, hl with | [_], _ => rfl) (pa_cons (pv 0) pa_nil) (fun _ _ _ _ _ _ _ => (pe_tup (pa_cons (pe_op op_sub pe_int (pe_ix (ixT (K := K) rfl) (pv 0) pe_int (fun _ _ => rfl))) (pa_cons (pe_ix (ixT (K := K) rfl) (pv 0) pe_int (fun _ _ => rfl)) pa_nil))))))), ?_⟩
    refine ⟨_, rfl, a, xs, vKey H, rfl, ha, fun y hy => ?_, ht, fun y hy H2 g Q' k' => ?_, fun ys a' H' hs hp eN hT hn => ?_⟩
    · obtain ⟨e, _, t, l, h1, _⟩ := Paired.left hc hy
      exact ⟨t, h1⟩
    · obtain ⟨e, _, he⟩ := Paired.left hc hy
      rw [vKey_at he] at k'
      obtain ⟨t, l, rfl, h1, h2⟩ := he
      have h1' := g _ _ h1 (fun ps z => by cases z)
      refine ⟨_, rfl, t, _, _, _, rfl, rfl, SqT.of h1', atI_nat (j := 1) rfl, _, _, rfl, rfl, _, rfl, t, _, _, _, rfl, rfl, SqT.of h1', atI_nat (j := 0) rfl, by show 2 ≤ sizeLine; decide, k'⟩
    · obtain ⟨es', p', hc'⟩ := Paired.perm hp hc
      exact k a' H' ys es' p' (ordered_of hc' hs) hc' ⟨eN, fun _ => hT⟩ hn
end
end Sk
namespace Sk
open PySem PySem.Spec PyProof.Rows L2
abbrev s_clean : Stmt := topS 16
abbrev N_clean : List Str := ["entries", "numbers", "name", "weight", "parts"]
theorem sc_clean : FnScope N_clean ["entries", "numbers"] (defScope s_clean) := ⟨rfl, rfl, rfl, by decide +kernel, rfl, by decide +kernel, by decide +kernel⟩
/-- the numbers that are not zero, in the entries' order -/
def cleanN (es : List Ent) (d : Num) : Num := (es.filter fun e => decide (getD d e.name ≠ 0)).map fun e => (e.name, getD d e.name)
def sp_clean (Tb : List (Addr × Str)) (K : PySem.W.Frag) : Sp := fun vs H Q _ => ∃ (a b : Addr) (xs : List V) (es : List Ent) (d : Num), vs = [.ref a, .ref b] ∧ SqL K H a xs ∧ CatAt H xs es ∧ H b = some (.dK (dS d)) ∧ (es.map (·.name)).Nodup ∧ es.length ≤ 100000 ∧
  ∀ r H', Gr Tb H H' → Nw H r → H' r = some (.dK (dS (cleanN es d))) → Q (.ref r) H'
def cleanO (H : Hp) (d : Num) (v : V) : Option (Str × Int) := match itemAt H 0 v with
  | some (.str n) => if getD d n ≠ 0 then some (n, getD d n) else none
  | _ => none
theorem cleanO_at {H : Hp} {d : Num} {v : V} {e : Ent} (h : EntAt H v e) : cleanO H d v = if getD d e.name ≠ 0 then some (e.name, getD d e.name) else none := by
  obtain ⟨t, l, rfl, ht, _⟩ := h
  unfold cleanO
  rw [itemAt_tup ht]
  rfl
theorem clean_fm {H : Hp} {d : Num} {vs : List V} {es : List Ent} (hc : CatAt H vs es) : vs.filterMap (cleanO H d) = cleanN es d := by
  rw [fm_pairedO (g := fun e => if getD d e.name ≠ 0 then some (e.name, getD d e.name) else none) (fun v e h => cleanO_at h) hc]
  clear hc
  unfold cleanN
  induction es with
  | nil => rfl
  | cons e es ih =>
    rw [List.filterMap_cons, List.filter_cons]
    by_cases c : getD d e.name ≠ 0
    · rw [if_pos c, if_pos (decide_eq_true c), ih]
      rfl
    · rw [if_neg c, if_neg (by rw [decide_eq_true_eq]; exact c), ih]
theorem clean_nodup {es : List Ent} {d : Num} (h : (es.map (·.name)).Nodup) : ((cleanN es d).map (·.1)).Nodup := by
  unfold cleanN
  rw [List.map_map]
  exact h.sublist ((List.filter_sublist (l := es)).map _)
section
variable {P : Program} {w : World} {K : PySem.W.Frag} {mg : Str → Option Value} {base : Heap} {Tb : List (Addr × Str)}
theorem ok_clean {f : Addr} {fd : FuncData} (F : FnP K "clean" s_clean f fd) (T : Tx K mg) : FnOk P w K mg base CX0 1 f fd ["entries", "numbers"] (sp_clean Tb K) := by
  refine F.ok sc_clean (fun vs H Q E h => ?_) (fun cdv A outer s H vs Q E hr h => ?_)
  · obtain ⟨_, _, _, _, _, rfl, _⟩ := h
    rfl
  · obtain ⟨a, b, xs, es, d, rfl, ha, hc, hb, hnd, hz, k⟩ := h
    refine ⟨_, PSs.nox (pss_one (ps_ret (pe_dc (own := [("name", 2), ("weight", 3), ("parts", 4)]) (g := (gTup K 3 (gCons (gName 2) (gCons (gName 3) (gCons (gName 4) gNil))))) (tt := _) rfl sc_clean.nd (piL (K := K) rfl (pv 0)) (blkOk_by (N := N_clean) (sc := (defScope s_clean)) (by decide +kernel)) (fun _ _ _ _ _ => (pg_tup rfl (pgs_cons (pg_name (i := 2) sc_clean.nd rfl (Or.inl rfl)) (pgs_cons (pg_name (i := 3) sc_clean.nd rfl (Or.inl rfl)) (pgs_cons (pg_name (i := 4) sc_clean.nd rfl (Or.inl rfl)) pgs_nil))))) (fun _ _ _ _ _ => (pts_one (pt_cmpR op_ne (pe_dget2 (hu_of hr) (pv 1) (pv 2) pe_int ⟨rfl, rfl, rfl, rfl⟩) pe_int (nomark _)))) (fun _ _ _ _ _ => (pv 2)) (fun _ _ _ _ _ => (pe_dget (hu_of hr) (pv 1) (pv 2) (fun _ _ => rfl)))))), ?_⟩
    have hl := Paired.len hc
    refine ⟨_, rfl, a, rfl, ⟨_, ha⟩, fun D hD => dc_fm (Tb := Tb) (xs := xs) walk_list rfl (cleanO H d) hD (by omega) (fun H' g => g.ext_seq ha) (fun j v H' hv g Rk Rs hk hs => ?_) fun H' g hD' => ?_⟩
    · obtain ⟨e, he, hev⟩ := Paired.at hc hv
      have hco := cleanO_at (d := d) hev
      obtain ⟨t, lp, rfl, ht, hlp⟩ := hev
      have hb' := g.at hb .dK
      refine gtup3 (g.at ht .tup) ⟨rfl, _, rfl, b, rfl, IsD.num hb', _, rfl, _, dgetO hb' e.name, ?_⟩
      rw [getO]
      refine ⟨rfl, _, rfl, ?_⟩
      refine ite2 (fun c1 => ?_) (fun c1 => ?_)
      · have c2 : getD d e.name ≠ 0 := fun z => by
          rw [z] at c1
          exact absurd c1 (by decide)
        obtain ⟨i, hi⟩ : ∃ i, get? d e.name = some i := by
          cases q : get? d e.name with
          | some i => exact ⟨i, rfl⟩
          | none =>
            unfold getD at c2
            rw [q] at c2
            exact absurd rfl c2
        have hgi : getD d e.name = i := by
          unfold getD
          rw [hi]
          rfl
        refine ⟨_, rfl, _, rfl, _, rfl, b, _, rfl, dgetS hb' hi, hk (e.name, i) _ ?_ (Gr.refl _)⟩
        rw [hco, if_pos c2, hgi]
      · refine hs _ ?_ (Gr.refl _)
        rw [hco, if_neg]
        intro c2
        refine c1 ?_
        rw [Bool.not_eq_true', decide_eq_false_iff_not]
        exact fun z => c2 (V.int.inj z)
    · rw [clean_fm hc, putAll_new _ _ (by rw [List.nil_append]; exact clean_nodup hnd), List.nil_append] at hD'
      exact k D H' g (.of hD) hD'
end
end Sk
namespace Sk
open PySem PySem.Spec PyProof.Rows L2
abbrev s_piece_numbers : Stmt := topS 17
abbrev N_piece_numbers : List Str := ["entries", "stock", "splits", "numbers", "name", "weight", "parts", "part"]
theorem sc_piece_numbers : FnScope N_piece_numbers ["entries", "stock", "splits"] (defScope s_piece_numbers) := ⟨rfl, rfl, rfl, by decide +kernel, rfl, by decide +kernel, by decide +kernel⟩
def sp_piece_numbers (Tb : List (Addr × Str)) (K : PySem.W.Frag) : Sp := fun vs H Q _ => ∃ (a b c : Addr) (xs : List V) (es : List Ent) (st sp : Num), vs = [.ref a, .ref b, .ref c] ∧ SqL K H a xs ∧ CatAt H xs es ∧ H b = some (.dK (dS st)) ∧ H c = some (.dK (dS sp)) ∧ (es.map (·.name)).Nodup ∧ (∀ e ∈ es, ∀ p ∈ e.parts, p ∈ es.map (·.name)) ∧ es.length ≤ 100000 ∧
  ∀ r H', Gr Tb H H' → Nw H r → H' r = some (.dK (dS (numOf es (pn es st sp)))) → Q (.ref r) H'
section
variable {P : Program} {w : World} {K : PySem.W.Frag} {mg : Str → Option Value} {base : Heap} {Tb : List (Addr × Str)}
theorem ok_piece_numbers {f : Addr} {fd : FuncData} (F : FnP K "piece_numbers" s_piece_numbers f fd) (T : Tx K mg) : FnOk P w K mg base CX0 1 f fd ["entries", "stock", "splits"] (sp_piece_numbers Tb K) := by
  refine F.ok sc_piece_numbers (fun vs H Q E h => ?_) (fun cdv A outer s H vs Q E hr h => ?_)
  · obtain ⟨_, _, _, _, _, _, _, rfl, _⟩ := h
    rfl
  · obtain ⟨a, b, c, xs, es, st, sp, rfl, ha, hc, hb, hsp, hnd, hp, hz, k⟩ := h
    refine ⟨_, PSs.nox (pss_cons (ps_setDc (i := 3) (own := [("name", 4), ("weight", 5), ("parts", 6)]) (g := (gTup K 3 (gCons (gName 4) (gCons (gName 5) (gCons (gName 6) gNil))))) (tt := tYes) rfl sc_piece_numbers.nd rfl rfl (swD_true rfl rfl rfl (by decide +kernel)) (piL (K := K) rfl (pv 0)) (blkOk_by (N := N_piece_numbers) (sc := (defScope s_piece_numbers)) (by decide +kernel)) (fun _ _ _ _ _ => (pg_tup rfl (pgs_cons (pg_name (i := 4) sc_piece_numbers.nd rfl (Or.inl rfl)) (pgs_cons (pg_name (i := 5) sc_piece_numbers.nd rfl (Or.inl rfl)) (pgs_cons (pg_name (i := 6) sc_piece_numbers.nd rfl (Or.inl rfl)) pgs_nil))))) (fun _ _ _ _ _ => pts_nil) (fun _ _ _ _ _ => (pv 4)) (fun _ _ _ _ _ => (pe_dget2 (hu_of hr) (pv 1) (pv 4) pe_int ⟨rfl, rfl, rfl, rfl⟩)))
      (pss_cons (ps_for PassesOwn.never rfl (piL (K := K) rfl (pv 0)) (pg_tup rfl (pgs_cons (pg_name (i := 4) sc_piece_numbers.nd rfl (Or.inl rfl)) (pgs_cons (pg_name (i := 5) sc_piece_numbers.nd rfl (Or.inl rfl)) (pgs_cons (pg_name (i := 6) sc_piece_numbers.nd rfl (Or.inl rfl)) pgs_nil)))) (pss_one (ps_for PassesOwn.never rfl (piL (K := K) rfl (pv 6)) (pg_name (i := 7) sc_piece_numbers.nd rfl (Or.inl rfl)) (pss_one (ps_daug (hu_of hr) (pv 3) (pv 7) (pe_dget2 (hu_of hr) (pv 2) (pv 4) pe_int ⟨rfl, rfl, rfl, rfl⟩) in_add (fun _ _ _ => rfl))))))
      (pss_one (ps_ret (pv 3))))), ?_⟩
    refine ⟨_, rfl, a, rfl, ⟨_, ha⟩, fun D hD => dc_stock (Tb := Tb) ha hc hb hnd hz hD (fun _ _ _ => rfl) (fun _ _ _ => rfl) (fun _ _ _ => rfl) fun H1 g1 hD1 => ?_⟩
    have nD : Nw H D := .of hD
    have hlen := Paired.len hc
    refine ⟨_, rfl, a, rfl, ⟨_, g1.ext_seq ha⟩, for_list (K := K) (a := a) (xs := xs) (fun i σ H' => ∃ s4 s5 s6 s7 : Option V, σ = [some (.ref a), some (.ref b), some (.ref c), some (.ref D), s4, s5, s6, s7] ∧ Gr Tb H H' ∧ H' D = some (.dK (dS (numOf es (addAll (getD st) (incs (es.take i) (getD sp)))))))
      ⟨_, _, _, _, rfl, g1, by rw [List.take_zero]; exact hD1⟩ (fun i σ H' _ ⟨_, _, _, _, _, g, _⟩ => g.ext_seq ha) ?_ ?_⟩
    · rintro i x σ H2 hx ⟨s4, s5, s6, s7, rfl, g2, hD2⟩
      obtain ⟨e, he, t, lp, rfl, ht, hlp⟩ := Paired.at hc hx
      have hm := List.mem_of_getElem? he
      have hlp2 := g2.at hlp .lst
      refine gtup3 (g2.at ht .tup) ⟨_, rfl, lp, rfl, ⟨_, SqL.of hlp2⟩, for_list (K := K) (a := lp) (xs := e.parts.map V.str) (fun j σ H' => ∃ s7 : Option V, σ = [some (.ref a), some (.ref b), some (.ref c), some (.ref D), some (.str e.name), some (.int e.w), some (.ref lp), s7] ∧ Gr Tb H H' ∧
          H' D = some (.dK (dS (numOf es (addAll (addAll (getD st) (incs (es.take i) (getD sp))) ((e.parts.take j).map fun p => (p, getD sp e.name)))))))
        ⟨_, rfl, g2, by rw [List.take_zero]; exact hD2⟩ (fun j σ H' _ ⟨_, _, g, _⟩ => SqL.of (g.at hlp .lst)) ?_ ?_⟩
      · rintro j y σ H3 hy ⟨s7, rfl, g3, hD3⟩
        rw [List.getElem?_map] at hy
        cases hq : e.parts[j]? with
        | none => rw [hq] at hy; cases hy
        | some q =>
          rw [hq] at hy
          cases hy
          have hqm : q ∈ es.map (·.name) := hp e hm q (List.mem_of_getElem? hq)
          have hsp3 := g3.at hsp .dK
          refine ⟨_, rfl, _, rfl, D, _, rfl, dgetS hD3 (get?_numOf hqm), _, rfl, c, rfl, IsD.num hsp3, _, rfl, _, dgetO hsp3 e.name, ?_⟩
          rw [getO]
          refine ⟨_, _, rfl, rfl, _, dputS hD3 (by rw [numOf_len, sizeLine_eq]; omega), _, rfl, g3.mut nD hD3 .dK, ?_⟩
          rw [upd_same, put_numOf hqm, take_snoc hq, List.map_append]
          show some (HO.dK (dS (numOf es (upF _ q _)))) = some (HO.dK (dS (numOf es (addAll _ (_ ++ [(q, getD sp e.name)])))))
          rw [addAll_snoc]
      · rintro σ H3 ⟨s7, rfl, g3, hD3⟩
        refine ⟨_, _, _, _, rfl, g3, ?_⟩
        rw [List.length_map, List.take_length] at hD3
        rw [incs_snoc he, addAll_append]
        exact hD3
    · rintro σ H2 ⟨s4, s5, s6, s7, rfl, g2, hD2⟩
      rw [hlen, List.take_length] at hD2
      exact ⟨_, rfl, k D H2 g2 nD hD2⟩
end
end Sk
namespace Sk
open PySem PySem.Spec PyProof.Rows L2
abbrev s_full_splits : Stmt := topS 18
abbrev N_full_splits : List Str := ["entries", "stock", "numbers", "found", "name", "weight", "parts", "part"]
theorem sc_full_splits : FnScope N_full_splits ["entries", "stock"] (defScope s_full_splits) := ⟨rfl, rfl, rfl, by decide +kernel, rfl, by decide +kernel, by decide +kernel⟩
/-- all splits, from the largest kind on -/
def fs : List Ent → (Str → Int) → Num
  | [], _ => []
  | e :: es, f => (if e.parts = [] then [] else [(e.name, f e.name)]) ++ fs es (addAll f (e.parts.map fun p => (p, f e.name)))
/-- the parts stand behind -/
def Behind : List Ent → Prop
  | [] => True
  | e :: es => (∀ p ∈ e.parts, p ∈ es.map (·.name) ∧ p ≠ e.name) ∧ Behind es
def sp_full_splits (Tb : List (Addr × Str)) (K : PySem.W.Frag) : Sp := fun vs H Q _ => ∃ (a b : Addr) (xs : List V) (es : List Ent) (st : Num), vs = [.ref a, .ref b] ∧ SqL K H a xs ∧ CatAt H xs es ∧ H b = some (.dK (dS st)) ∧ (es.map (·.name)).Nodup ∧ Behind es ∧ es.length ≤ 100000 ∧
  ∀ r H', Gr Tb H H' → Nw H r → H' r = some (.dK (dS (fs es (getD st)))) → Q (.ref r) H'
/-- the numbers behind the entries -/
def fsS : List Ent → (Str → Int) → Str → Int
  | [], f => f
  | e :: es, f => fsS es (addAll f (e.parts.map fun p => (p, f e.name)))
theorem fs_snoc (e : Ent) : ∀ (l : List Ent) (f : Str → Int), fs (l ++ [e]) f = fs l f ++ (if e.parts = [] then [] else [(e.name, fsS l f e.name)])
  | [], f => by
    show (if e.parts = [] then [] else [(e.name, f e.name)]) ++ [] = [] ++ _
    rw [List.append_nil, List.nil_append]
    rfl
  | x :: l, f => by
    show (if x.parts = [] then [] else [(x.name, f x.name)]) ++ fs (l ++ [e]) (addAll f (x.parts.map fun p => (p, f x.name))) = ((if x.parts = [] then [] else [(x.name, f x.name)]) ++ fs l (addAll f (x.parts.map fun p => (p, f x.name)))) ++ _
    rw [fs_snoc e l, List.append_assoc]
    rfl
theorem fsS_snoc (e : Ent) : ∀ (l : List Ent) (f : Str → Int), fsS (l ++ [e]) f = addAll (fsS l f) (e.parts.map fun p => (p, fsS l f e.name))
  | [], f => rfl
  | x :: l, f => fsS_snoc e l _
theorem fs_names : ∀ (l : List Ent) (f : Str → Int), ∀ x ∈ (fs l f).map (·.1), x ∈ l.map (·.name)
  | [], _, x, h => by cases h
  | e :: l, f, x, h => by
    rw [fs, List.map_append] at h
    rw [List.map_cons]
    rcases List.mem_append.mp h with z | z
    · by_cases c : e.parts = []
      · rw [if_pos c] at z
        cases z
      · rw [if_neg c] at z
        rw [List.mem_singleton.mp z]
        exact List.mem_cons_self ..
    · exact List.mem_cons_of_mem _ (fs_names l _ x z)
theorem fs_len : ∀ (l : List Ent) (f : Str → Int), (fs l f).length ≤ l.length
  | [], _ => Nat.le_refl _
  | e :: l, f => by
    have := fs_len l (addAll f (e.parts.map fun p => (p, f e.name)))
    rw [fs, List.length_append, List.length_cons]
    split
    · rw [List.length_nil]
      omega
    · rw [List.length_singleton]
      omega
theorem Behind.at : ∀ {es : List Ent} {e : Ent}, Behind es → e ∈ es → ∀ p ∈ e.parts, p ∈ es.map (·.name) ∧ p ≠ e.name
  | [], _, _, h => by cases h
  | x :: es, e, b, h => fun p hp => by
    rw [List.map_cons]
    rcases List.mem_cons.mp h with rfl | h
    · exact ⟨List.mem_cons_of_mem _ (b.1 p hp).1, (b.1 p hp).2⟩
    · obtain ⟨h1, h2⟩ := Behind.at b.2 h p hp
      exact ⟨List.mem_cons_of_mem _ h1, h2⟩
theorem amt_zero {l : Num} {x : Str} (h : ∀ q ∈ l, q.1 ≠ x) : amt l x = 0 := by
  induction l with
  | nil => rfl
  | cons q l ih =>
    rw [amt_cons, if_neg (h q (List.mem_cons_self ..)), ih fun z hz => h z (List.mem_cons_of_mem _ hz)]
    rfl
theorem put_snoc {d : Num} {x : Str} {i : Int} (h : x ∉ d.map (·.1)) : put d x i = d ++ [(x, i)] := put_new' h
section
variable {P : Program} {w : World} {K : PySem.W.Frag} {mg : Str → Option Value} {base : Heap} {Tb : List (Addr × Str)}
theorem ok_full_splits {f : Addr} {fd : FuncData} (F : FnP K "full_splits" s_full_splits f fd) (T : Tx K mg) : FnOk P w K mg base CX0 1 f fd ["entries", "stock"] (sp_full_splits Tb K) := by
  refine F.ok sc_full_splits (fun vs H Q E h => ?_) (fun cdv A outer s H vs Q E hr h => ?_)
  · obtain ⟨_, _, _, _, _, rfl, _⟩ := h
    rfl
  · obtain ⟨a, b, xs, es, st, rfl, ha, hc, hb, hnd, hp, hz, k⟩ := h
    refine ⟨_, PSs.nox (pss_cons (ps_setDc (i := 2) (own := [("name", 4), ("weight", 5), ("parts", 6)]) (g := (gTup K 3 (gCons (gName 4) (gCons (gName 5) (gCons (gName 6) gNil))))) (tt := tYes) rfl sc_full_splits.nd rfl rfl (swD_true rfl rfl rfl (by decide +kernel)) (piL (K := K) rfl (pv 0)) (blkOk_by (N := N_full_splits) (sc := (defScope s_full_splits)) (by decide +kernel)) (fun _ _ _ _ _ => (pg_tup rfl (pgs_cons (pg_name (i := 4) sc_full_splits.nd rfl (Or.inl rfl)) (pgs_cons (pg_name (i := 5) sc_full_splits.nd rfl (Or.inl rfl)) (pgs_cons (pg_name (i := 6) sc_full_splits.nd rfl (Or.inl rfl)) pgs_nil))))) (fun _ _ _ _ _ => pts_nil) (fun _ _ _ _ _ => (pv 4)) (fun _ _ _ _ _ => (pe_dget2 (hu_of hr) (pv 1) (pv 4) pe_int ⟨rfl, rfl, rfl, rfl⟩)))
      (pss_cons (ps_set (i := 3) sc_full_splits.nd rfl (Or.inl rfl) pe_dnewK)
      (pss_cons (ps_for PassesOwn.never rfl (piL (K := K) rfl (pv 0)) (pg_tup rfl (pgs_cons (pg_name (i := 4) sc_full_splits.nd rfl (Or.inl rfl)) (pgs_cons (pg_name (i := 5) sc_full_splits.nd rfl (Or.inl rfl)) (pgs_cons (pg_name (i := 6) sc_full_splits.nd rfl (Or.inl rfl)) pgs_nil)))) (pss_cons (ps_if (pt_cmpR (opNeNil (K := K) rfl hr.units) (pv 6) (pe_lst pa_nil) (nomark _)) (pss_one (ps_dput (hu_of hr) (pv 3) (pv 4) (pe_dget (hu_of hr) (pv 2) (pv 4) (fun _ _ => rfl)) rfl)) pss_nil)
        (pss_one (ps_for PassesOwn.never rfl (piL (K := K) rfl (pv 6)) (pg_name (i := 7) sc_full_splits.nd rfl (Or.inl rfl)) (pss_one (ps_daug (hu_of hr) (pv 2) (pv 7) (pe_dget (hu_of hr) (pv 2) (pv 4) (fun _ _ => rfl)) in_add (fun _ _ _ => rfl)))))))
      (pss_one (ps_ret (pv 3)))))), ?_⟩
    refine ⟨_, rfl, a, rfl, ⟨_, ha⟩, fun D hD => dc_stock (Tb := Tb) ha hc hb hnd hz hD (fun _ _ _ => rfl) (fun _ _ _ => rfl) (fun _ _ _ => rfl) fun H1 g1 hD1 => ?_⟩
    have nD : Nw H D := .of hD
    have hlen := Paired.len hc
    intro F hF
    have nF : Nw H F := g1.nw (.of hF)
    have DF : D ≠ F := ne_of_none hD1 hF
    have g2 : Gr Tb H (upd H1 F (.dK [])) := g1.trans (Gr.new hF)
    refine ⟨_, rfl, a, rfl, ⟨_, g2.ext_seq ha⟩, for_list (K := K) (a := a) (xs := xs) (fun i σ H' => ∃ s4 s5 s6 s7 : Option V, σ = [some (.ref a), some (.ref b), some (.ref D), some (.ref F), s4, s5, s6, s7] ∧ Gr Tb H H' ∧ H' D = some (.dK (dS (numOf es (fsS (es.take i) (getD st))))) ∧ H' F = some (.dK (dS (fs (es.take i) (getD st)))))
      ⟨_, _, _, _, rfl, g2, by rw [List.take_zero, upd_ne DF]; exact hD1, by rw [List.take_zero, upd_same]; rfl⟩ (fun i σ H' _ ⟨_, _, _, _, _, g, _⟩ => g.ext_seq ha) ?_ ?_⟩
    · rintro i x σ H2 hx ⟨s4, s5, s6, s7, rfl, g2, hD2, hF2⟩
      obtain ⟨e, he, t, lp, rfl, ht, hlp⟩ := Paired.at hc hx
      have hm := List.mem_of_getElem? he
      have hnm : e.name ∈ es.map (·.name) := List.mem_map.mpr ⟨e, hm, rfl⟩
      have hbe := Behind.at hp hm
      have hlp2 := g2.at hlp .lst
      generalize hfi : fsS (es.take i) (getD st) = g at hD2
      -- found
      have step : ∀ H3, Gr Tb H H3 → H3 D = some (.dK (dS (numOf es g))) → H3 F = some (.dK (dS (fs (es.take (i + 1)) (getD st)))) →
          tFor (iList K (tVar 6)) (gName 7) (sDAug (tVar 2) (tVar 7) (tDGet (tVar 2) (tVar 4)) rAdd)
            ⟨fun σ H' => ∃ s4 s5 s6 s7 : Option V, σ = [some (.ref a), some (.ref b), some (.ref D), some (.ref F), s4, s5, s6, s7] ∧ Gr Tb H H' ∧ H' D = some (.dK (dS (numOf es (fsS (es.take (i + 1)) (getD st))))) ∧ H' F = some (.dK (dS (fs (es.take (i + 1)) (getD st)))), Q,
              fun σ H' => tRet (tVar 3) { nx := fun _ H' => Q .non H', rt := Q } σ H', fun σ H' => ∃ s4 s5 s6 s7 : Option V, σ = [some (.ref a), some (.ref b), some (.ref D), some (.ref F), s4, s5, s6, s7] ∧ Gr Tb H H' ∧ H' D = some (.dK (dS (numOf es (fsS (es.take (i + 1)) (getD st))))) ∧ H' F = some (.dK (dS (fs (es.take (i + 1)) (getD st))))⟩
            [some (.ref a), some (.ref b), some (.ref D), some (.ref F), some (.str e.name), some (.int e.w), some (.ref lp), s7] H3 := by
        intro H3 g3 hD3 hF3
        refine ⟨_, rfl, lp, rfl, ⟨_, SqL.of (g3.at hlp .lst)⟩, for_list (K := K) (a := lp) (xs := e.parts.map V.str) (fun j σ H' => ∃ s7 : Option V, σ = [some (.ref a), some (.ref b), some (.ref D), some (.ref F), some (.str e.name), some (.int e.w), some (.ref lp), s7] ∧ Gr Tb H H' ∧
            H' D = some (.dK (dS (numOf es (addAll g ((e.parts.take j).map fun p => (p, g e.name)))))) ∧ H' F = some (.dK (dS (fs (es.take (i + 1)) (getD st)))))
          ⟨_, rfl, g3, by rw [List.take_zero]; exact hD3, hF3⟩ (fun j σ H' _ ⟨_, _, g, _⟩ => SqL.of (g.at hlp .lst)) ?_ ?_⟩
        · rintro j y σ H4 hy ⟨s7, rfl, g4, hD4, hF4⟩
          rw [List.getElem?_map] at hy
          cases hq : e.parts[j]? with
          | none => rw [hq] at hy; cases hy
          | some q =>
            rw [hq] at hy
            cases hy
            obtain ⟨hqm, hqn⟩ := hbe q (List.mem_of_getElem? hq)
            have same : addAll g ((e.parts.take j).map fun p => (p, g e.name)) e.name = g e.name := by
              rw [addAll_at, amt_zero]
              · omega
              · intro z hz
                obtain ⟨p, hp2, rfl⟩ := List.mem_map.mp hz
                exact (hbe p (List.mem_of_mem_take hp2)).2
            refine ⟨_, rfl, _, rfl, D, _, rfl, dgetS hD4 (get?_numOf hqm), _, rfl, _, rfl, D, _, rfl, dgetS hD4 (get?_numOf hnm), _, _, rfl, rfl, _, dputS hD4 (by rw [numOf_len, sizeLine_eq]; omega), _, rfl, g4.mut nD hD4 .dK, ?_, ?_⟩
            · rw [upd_same, put_numOf hqm, take_snoc hq, List.map_append, same]
              show some (HO.dK (dS (numOf es (upF _ q _)))) = some (HO.dK (dS (numOf es (addAll _ (_ ++ [(q, g e.name)])))))
              rw [addAll_snoc]
            · rw [upd_ne DF.symm]
              exact hF4
        · rintro σ H4 ⟨s7, rfl, g4, hD4, hF4⟩
          refine ⟨_, _, _, _, rfl, g4, ?_, hF4⟩
          rw [List.length_map, List.take_length] at hD4
          rw [take_snoc he, fsS_snoc, hfi]
          exact hD4
      have fsn : fs (es.take (i + 1)) (getD st) = fs (es.take i) (getD st) ++ (if e.parts = [] then [] else [(e.name, g e.name)]) := by rw [take_snoc he, fs_snoc, hfi]
      have notin : e.name ∉ (fs (es.take i) (getD st)).map (·.1) := fun hm2 => take_notin hnd he (fs_names _ _ _ hm2)
      refine gtup3 (g2.at ht .tup) ⟨_, rfl, rd_nil (SqL.of hlp2) fun p hpn => ⟨_, rfl, ?_⟩⟩
      have g3 : Gr Tb H (upd H2 p (.lst [])) := g2.trans (Gr.new hpn)
      have hD3 : upd H2 p (.lst []) D = some (.dK (dS (numOf es g))) := (Gr.new (T := Tb) hpn).at hD2 .dK
      have hF3 : upd H2 p (.lst []) F = some (.dK (dS (fs (es.take i) (getD st)))) := (Gr.new (T := Tb) hpn).at hF2 .dK
      cases hps : e.parts with
      | nil =>
        refine step _ g3 hD3 ?_
        rw [fsn, if_pos hps, List.append_nil]
        exact hF3
      | cons p0 ps =>
        have ne : e.parts ≠ [] := by rw [hps]; simp
        refine ⟨_, rfl, _, rfl, D, _, rfl, dgetS hD3 (get?_numOf hnm), _, rfl, _, rfl, F, _, rfl, dputS hF3 ?_, step _ (g3.mut nF hF3 .dK) ?_ ?_⟩
        · have h1 := fs_len (es.take i) (getD st)
          rw [List.length_take] at h1
          rw [sizeLine_eq]
          omega
        · rw [upd_ne DF]
          exact hD3
        · rw [upd_same, put_snoc notin, fsn, if_neg ne]
    · rintro σ H2 ⟨s4, s5, s6, s7, rfl, g2, hD2, hF2⟩
      rw [hlen, List.take_length] at hF2
      exact ⟨_, rfl, k F H2 g2 nF hF2⟩
end
end Sk
namespace Sk
open PySem PySem.Spec PyProof.Rows L2
theorem rising_pw : ∀ (r : List Str) (x : Str), risingS x r = true → (x :: r).Pairwise fun a b => a.cps.toList ≤ b.cps.toList
  | [], _, _ => List.pairwise_singleton ..
  | y :: r, x, h => by
    have h' : (!ltCps y.cps.toList x.cps.toList && risingS y r) = true := h
    rw [Bool.and_eq_true, ltCps_eq, Bool.not_eq_true', decide_eq_false_iff_not] at h'
    have h1 : x.cps.toList ≤ y.cps.toList := h'.1
    have ih := rising_pw r y h'.2
    refine List.pairwise_cons.mpr ⟨fun z hz => ?_, ih⟩
    rcases List.mem_cons.mp hz with rfl | hz
    · exact h1
    · exact List.le_trans h1 ((List.pairwise_cons.mp ih).1 z hz)
theorem sorted_pw {l : List Str} (h : sortedS l = true) : l.Pairwise fun a b => a.cps.toList ≤ b.cps.toList := by
  cases l with
  | nil => exact List.Pairwise.nil
  | cons x r => exact rising_pw r x h
/-- the first of some keys, by the order of texts, that is so -/
def FirstName (p : Str → Prop) (keys : List Str) (x : Str) : Prop := x ∈ keys ∧ p x ∧ ∀ y ∈ keys, p y → x.cps.toList ≤ y.cps.toList
theorem first_name {p : Str → Prop} {ys keys : List Str} (hp : ys.Perm keys) (so : sortedS ys = true) {i : Nat} {x : Str} (hx : ys[i]? = some x) (px : p x) (nb : ∀ (j : Nat) y, j < i → ys[j]? = some y → ¬ p y) : FirstName p keys x := by
  refine ⟨hp.mem_iff.mp (List.mem_of_getElem? hx), px, fun y hy py => ?_⟩
  obtain ⟨j, hj⟩ := List.mem_iff_getElem?.mp (hp.mem_iff.mpr hy)
  obtain ⟨hi, hxe⟩ := List.getElem?_eq_some_iff.mp hx
  obtain ⟨hjl, hye⟩ := List.getElem?_eq_some_iff.mp hj
  rcases Nat.lt_trichotomy j i with z | z | z
  · exact absurd py (nb j y z hj)
  · subst z
    rw [hx] at hj
    cases hj
    exact List.le_refl _
  · have := List.pairwise_iff_getElem.mp (sorted_pw so) i j hi hjl z
    rw [hxe, hye] at this
    exact this
theorem FirstName.uniq {p : Str → Prop} {keys : List Str} {x y : Str} (a : FirstName p keys x) (b : FirstName p keys y) : x = y := str_ext (List.le_antisymm (a.2.2 y b.1 b.2.1) (b.2.2 x a.1 a.2.1))
end Sk
namespace Sk
open PySem PySem.Spec PyProof.Rows L2
abbrev s_check_stock : Stmt := topS 19
abbrev N_check_stock : List Str := ["catalogue", "stock", "names", "name", "entry"]
theorem sc_check_stock : FnScope N_check_stock ["catalogue", "stock"] (defScope s_check_stock) := ⟨rfl, rfl, rfl, by decide +kernel, rfl, by decide +kernel, by decide +kernel⟩
/-- a stock of known names, none below zero -/
structure StockOk (es : List Ent) (st : Num) : Prop where
  nd : (st.map (·.1)).Nodup
  few : st.length < 64
  known : ∀ q ∈ st, q.1 ∈ es.map (·.name)
  pos : ∀ q ∈ st, 0 ≤ q.2
/-- a stock's name that may not be -/
def badSt (es : List Ent) (st : Num) (x : Str) : Prop := x ∉ es.map (·.name) ∨ getD st x < 0
def Sized (es : List Ent) : Prop := es.length ≤ 100000 ∧ ∀ e ∈ es, e.name.length ≤ 1000000 ∧ e.parts.length ≤ 100000
/-- what happens when a catalogue or a stock may not be -/
def ErrCS (Tb : List (Addr × Str)) (K : PySem.W.Frag) (H : Hp) (E : XK) (es : List Ent) (st : Num) : Prop :=
  (∀ (i : Nat) dd H', BadCat es i → Gr Tb H H' → H' dd = some (.xd [("value", .int i)]) → E (.ref (He.ga K "InvalidCatalogue")) (some dd) H') ∧
  (∀ x dd H', Valid es → FirstName (badSt es st) (st.map (·.1)) x → Gr Tb H H' → H' dd = some (.xd [("value", .str x)]) → E (.ref (He.ga K "InvalidStock")) (some dd) H')
def sp_check_stock (Tb : List (Addr × Str)) (K : PySem.W.Frag) : Sp := fun vs H Q E => ∃ (a b : Addr) (xs : List V) (es : List Ent) (st : Num), vs = [.ref a, .ref b] ∧ SqL K H a xs ∧ CatAt H xs es ∧ H b = some (.dK (dS st)) ∧ (st.map (·.1)).Nodup ∧ st.length < 64 ∧ es.length ≤ 100000 ∧ (StockOk es st → ∀ H', Gr Tb H H' → Q .non H') ∧
  (∀ x dd H', FirstName (badSt es st) (st.map (·.1)) x → Gr Tb H H' → H' dd = some (.xd [("value", .str x)]) → E (.ref (He.ga K "InvalidStock")) (some dd) H')
section
variable {P : Program} {w : World} {K : PySem.W.Frag} {mg : Str → Option Value} {base : Heap} {Tb : List (Addr × Str)}
theorem ok_check_stock {f : Addr} {fd : FuncData} (F : FnP K "check_stock" s_check_stock f fd) (T : Tx K mg) (XC_InvalidStock : Xc P w K mg base "InvalidStock") : FnOk P w K mg base (L2N.CX P w) 3 f fd ["catalogue", "stock"] (sp_check_stock Tb K) := by
  refine F.ok (CX := L2N.CX P w) sc_check_stock (fun vs H Q E h => ?_) (fun cdv A outer s H vs Q E hr h => ?_)
  · obtain ⟨_, _, _, _, _, rfl, _⟩ := h
    rfl
  · obtain ⟨a, b, xs, es, st, rfl, ha, hc, hb, nd, few, hz, k1, k2⟩ := h
    refine ⟨_, (pss_cons (ps_setLc (i := 2) (own := [("entry", 4)]) (g := (gName 4)) (tt := tYes) rfl sc_check_stock.nd rfl rfl (sw_true rfl rfl rfl (by decide +kernel)) (piL (K := K) rfl (pv 0)) (blkOk_by (N := N_check_stock) (sc := (defScope s_check_stock)) (by decide +kernel)) (fun _ _ _ _ _ => (pg_name (i := 4) sc_check_stock.nd rfl (Or.inl rfl))) (fun _ _ _ _ _ => pts_nil) (fun _ _ _ _ _ => (pe_ix (ixT (K := K) rfl) (pv 4) pe_int (fun _ _ => rfl))))
      (pss_one (ps_for (passes_of rfl) rfl (piL (K := K) rfl (pe_callB (call_sortedD rfl) (by rfl) T.n_sorted (by decide +kernel) (pa_cons (pv 1) pa_nil))) (pg_name (i := 3) sc_check_stock.nd rfl (Or.inl rfl)) (pss_one (ps_if (PW.pt (pw_or (pt_cmpR (opNotIn (K := K) rfl) (pv 3) (pv 2) (by with_unfolding_all rfl)) (pw_or1 (pt_cmpR op_lt (pe_dget (hu_of hr) (pv 1) (pv 3) (fun _ _ => rfl)) pe_int (nomark _))))) (pss_one (L2N.ps_raise rfl (L2N.takes_of rfl rfl rfl rfl) (pmk_xc XC_InvalidStock (hr.mono (by decide)) (pa_cons (pv 3) pa_nil)))) pss_nil))))), ?_⟩
    refine ⟨_, rfl, a, rfl, ⟨_, ha⟩, fun D hD => lc_names (Tb := Tb) ha hc hz hD rfl fun H1 g1 hD1 => ?_⟩
    have hkeys : (dS st).map (·.1) = (st.map (·.1)).map Sum.inr := by
      unfold dS
      rw [List.map_map, List.map_map]
      rfl
    refine ⟨_, rfl, b, _, st.map (·.1), rfl, .inl (g1.at hb .dK), hkeys, by rw [List.length_map]; exact few, fun ys p hp hso hpn => ?_⟩
    have g2 : Gr Tb H (upd H1 p (.lst (ys.map V.str))) := g1.trans (Gr.new hpn)
    refine ⟨p, rfl, ⟨_, SqL.of upd_same⟩, for_list (K := K) (a := p) (xs := ys.map V.str) (fun i σ H' => ∃ s3 s4 : Option V, σ = [some (.ref a), some (.ref b), some (.ref D), s3, s4] ∧ Gr Tb H H' ∧ H' p = some (.lst (ys.map V.str)) ∧ H' D = some (.lst ((es.map (·.name)).map V.str)) ∧ ∀ (j : Nat) y, j < i → ys[j]? = some y → ¬ badSt es st y)
      ⟨_, _, rfl, g2, upd_same, by rw [upd_ne (ne_of_none hD1 hpn)]; exact hD1, fun j y h => absurd h (Nat.not_lt_zero _)⟩ (fun i σ H' _ ⟨_, _, _, _, h, _⟩ => SqL.of h) ?_ ?_⟩
    rotate_left
    · rintro σ H' ⟨s3, s4, rfl, g, _, _, nb⟩
      rw [List.length_map] at nb
      have nb2 : ∀ q ∈ st, ¬ badSt es st q.1 := fun q hq => by
        obtain ⟨j, hj⟩ := List.mem_iff_getElem?.mp (hp.mem_iff.mpr (List.mem_map.mpr ⟨q, hq, rfl⟩))
        exact nb j q.1 (List.getElem?_eq_some_iff.mp hj).1 hj
      exact k1 ⟨nd, few, fun q hq => Decidable.byContradiction fun z => nb2 q hq (.inl z), fun q hq => Int.not_lt.mp fun z => nb2 q hq (.inr (by rw [getD_mem nd hq]; exact z))⟩ H' g
    rintro i x σ H2 hx ⟨s3, s4, rfl, g3, hp2, hD2, nb⟩
    rw [List.getElem?_map] at hx
    cases hy : ys[i]? with
    | none => rw [hy] at hx; cases hx
    | some y =>
      rw [hy] at hx
      cases hx
      have hym : y ∈ st.map (·.1) := hp.mem_iff.mp (List.mem_of_getElem? hy)
      obtain ⟨q, hq, rfl⟩ := List.mem_map.mp hym
      refine ⟨_, rfl, _, rfl, D, _, rfl, .inl (SqL.of hD2), rfl, flat_strs _, _, rfl, ?_⟩
      rw [inV_strs]
      refine ite2 (fun z => ?_) (fun z => ?_)
      · rw [if_pos rfl, Bool.not_eq_true', decide_eq_false_iff_not] at z
        exact iteTb rfl ⟨_, rfl, _, rfl, fun dd hdd => k2 q.1 dd _ (first_name hp hso hy (.inl z) nb) (g3.trans (Gr.new hdd)) upd_same⟩
      · have hk : q.1 ∈ es.map (·.name) := Decidable.byContradiction fun y => z (by rw [if_pos rfl, decide_eq_false y]; rfl)
        refine ⟨_, rfl, _, rfl, b, _, rfl, dgetS (g3.at hb .dK) (get_some nd hq), _, _, rfl, rfl, _, rfl, ?_⟩
        refine ite2 (fun z => ?_) (fun z => ?_)
        · exact ⟨_, rfl, _, rfl, fun dd hdd => k2 q.1 dd _ (first_name hp hso hy (.inr (by rw [getD_mem nd hq]; exact of_decide_eq_true z)) nb) (g3.trans (Gr.new hdd)) upd_same⟩
        · refine ⟨_, _, rfl, g3, hp2, hD2, fun j y h hj => ?_⟩
          rcases Nat.lt_succ_iff_lt_or_eq.mp h with h | rfl
          · exact nb j y h hj
          · rw [hy] at hj
            cases hj
            rintro (y1 | y1)
            · exact y1 hk
            · rw [getD_mem nd hq] at y1
              exact z (decide_eq_true y1)
end
end Sk
namespace Sk
open PySem PySem.Spec PyProof.Rows L2
abbrev s_check_splits : Stmt := topS 20
abbrev N_check_splits : List Str := ["catalogue", "stock", "splits", "entries", "numbers", "name", "weight", "parts"]
theorem sc_check_splits : FnScope N_check_splits ["catalogue", "stock", "splits"] (defScope s_check_splits) := ⟨rfl, rfl, rfl, by decide +kernel, rfl, by decide +kernel, by decide +kernel⟩
/-- valid splits: of known names, at most as many as there are pieces -/
structure SplitsOk (es : List Ent) (st sp : Num) : Prop where
  nd : (sp.map (·.1)).Nodup
  few : sp.length < 64
  known : ∀ q ∈ sp, q.1 ∈ es.map (·.name)
  fits : ∀ e ∈ es, 0 ≤ getD sp e.name ∧ getD sp e.name ≤ if e.parts = [] then 0 else pn es st sp e.name
/-- a kind's splits that may be -/
def fitE (es : List Ent) (st sp : Num) (e : Ent) : Prop := 0 ≤ getD sp e.name ∧ getD sp e.name ≤ if e.parts = [] then 0 else pn es st sp e.name
/-- the name that the splits are refused for -/
def BadSp (es : List Ent) (st sp : Num) (x : Str) : Prop := FirstName (· ∉ es.map (·.name)) (sp.map (·.1)) x ∨ ((∀ q ∈ sp, q.1 ∈ es.map (·.name)) ∧ ∃ (es' : List Ent) (i : Nat) (e : Ent), es'.Perm es ∧ Ordered es' ∧ es'[i]? = some e ∧ e.name = x ∧ ¬ fitE es st sp e ∧ ∀ (j : Nat) y, j < i → es'[j]? = some y → fitE es st sp y)
def sp_check_splits (Tb : List (Addr × Str)) (K : PySem.W.Frag) : Sp := fun vs H Q E => ∃ (a b c : Addr) (xs : List V) (es : List Ent) (st sp : Num), vs = [.ref a, .ref b, .ref c] ∧ SqL K H a xs ∧ CatAt H xs es ∧ H b = some (.dK (dS st)) ∧ H c = some (.dK (dS sp)) ∧ LamX.Tabs Tb H ∧ Valid es ∧ (sp.map (·.1)).Nodup ∧ sp.length < 64 ∧ (SplitsOk es st sp → ∀ H', Gr Tb H H' → Q .non H') ∧
  (∀ x dd H', BadSp es st sp x → Gr Tb H H' → H' dd = some (.xd [("value", .str x)]) → E (.ref (He.ga K "InvalidSplits")) (some dd) H')
section
variable {P : Program} {w : World} {K : PySem.W.Frag} {mg : Str → Option Value} {base : Heap} {Tb : List (Addr × Str)}
theorem ok_check_splits {f : Addr} {fd : FuncData} (F : FnP K "check_splits" s_check_splits f fd) (T : Tx K mg) (XC_InvalidSplits : Xc P w K mg base "InvalidSplits") (G_ordered : Fn P w K mg base "ordered" 4 ["catalogue"] (sp_ordered Tb K)) (G_piece_numbers : Fn P w K mg base "piece_numbers" 1 ["entries", "stock", "splits"] (sp_piece_numbers Tb K)) : FnOk P w K mg base (L2N.CX P w) 5 f fd ["catalogue", "stock", "splits"] (sp_check_splits Tb K) := by
  refine F.ok (CX := L2N.CX P w) sc_check_splits (fun vs H Q E h => ?_) (fun cdv A outer s H vs Q E hr h => ?_)
  · obtain ⟨_, _, _, _, _, _, _, rfl, _⟩ := h
    rfl
  · obtain ⟨a, b, c, xs, es, st, sp, rfl, ha, hc, hb, hsp, ht, hv, nd, few, k1, k2⟩ := h
    refine ⟨_, (pss_cons (ps_set (i := 3) sc_check_splits.nd rfl (Or.inl rfl) (pe_fn G_ordered (hr.mono (by decide)) (pa_cons (pv 0) pa_nil)))
      (pss_cons (ps_set (i := 4) sc_check_splits.nd rfl (Or.inl rfl) (pe_fn G_piece_numbers (hr.mono (by decide)) (pa_cons (pv 3) (pa_cons (pv 1) (pa_cons (pv 2) pa_nil)))))
      (pss_cons (ps_for (passes_of rfl) rfl (piL (K := K) rfl (pe_callB (call_sortedD rfl) (by rfl) T.n_sorted (by decide +kernel) (pa_cons (pv 2) pa_nil))) (pg_name (i := 5) sc_check_splits.nd rfl (Or.inl rfl)) (pss_one (ps_if (pt_cmp (pc_dnotin (hu_of hr) (pv 5) (pv 4))) (pss_one (L2N.ps_raise rfl (L2N.takes_of rfl rfl rfl rfl) (pmk_xc XC_InvalidSplits (hr.mono (by decide)) (pa_cons (pv 5) pa_nil)))) pss_nil)))
      (pss_one (ps_for (passes_of rfl) rfl (piL (K := K) rfl (pv 3)) (pg_tup rfl (pgs_cons (pg_name (i := 5) sc_check_splits.nd rfl (Or.inl rfl)) (pgs_cons (pg_name (i := 6) sc_check_splits.nd rfl (Or.inl rfl)) (pgs_cons (pg_name (i := 7) sc_check_splits.nd rfl (Or.inl rfl)) pgs_nil)))) (pss_one (ps_if (pt_not (pt_chain op_le op_le pe_int (pe_dget2 (hu_of hr) (pv 2) (pv 5) pe_int ⟨rfl, rfl, rfl, rfl⟩) (pe_ifExp (pt_cmpR (opNeNil (K := K) rfl hr.units) (pv 7) (pe_lst pa_nil) (nomark _)) (pe_dget (hu_of hr) (pv 4) (pv 5) (fun _ _ => rfl)) pe_int))) (pss_one (L2N.ps_raise rfl (L2N.takes_of rfl rfl rfl rfl) (pmk_xc XC_InvalidSplits (hr.mono (by decide)) (pa_cons (pv 5) pa_nil)))) pss_nil))))))), ?_⟩
    refine ⟨_, rfl, a, xs, es, rfl, ha, hc, ht, hv.few, fun r H1 ys es' hp ho hc1 g1 hr => ?_⟩
    have g2 : Gr Tb H (upd H1 r (.lst ys)) := g1.trans (Gr.new hr)
    have hc2 : CatAt (upd H1 r (.lst ys)) ys es' := CatAt.gr g2 hc1
    have hv' := hv.perm hp
    refine ⟨_, rfl, _, rfl, _, rfl, r, b, c, ys, es', st, sp, rfl, SqL.of upd_same, hc2, g2.at hb .dK, g2.at hsp .dK, hv'.nodup, hv'.known, hv'.few, fun N H2 g3 hN hN2 => ?_⟩
    rw [pn_perm hp] at hN2
    have hr2 := g3.at (upd_same (H := H1) (a := r) (o := .lst ys)) .lst
    have g4 := g2.trans g3
    have hc3 : CatAt H2 ys es' := CatAt.gr g3 hc2
    have hkeys : (dS sp).map (·.1) = (sp.map (·.1)).map Sum.inr := by
      unfold dS
      rw [List.map_map, List.map_map]
      rfl
    refine ⟨_, rfl, c, _, sp.map (·.1), rfl, .inl (g4.at hsp .dK), hkeys, by rw [List.length_map]; exact few, fun zs p hpz hso hpn => ?_⟩
    have g5 : Gr Tb H2 (upd H2 p (.lst (zs.map V.str))) := Gr.new hpn
    have nm : ∀ x, x ∈ es.map (·.name) → x ∈ es'.map (·.name) := fun x hx => (hp.map _).mem_iff.mpr hx
    have mn : ∀ x, x ∈ es'.map (·.name) → x ∈ es.map (·.name) := fun x hx => (hp.map _).mem_iff.mp hx
    refine ⟨p, rfl, ⟨_, SqL.of upd_same⟩, for_list (K := K) (a := p) (xs := zs.map V.str) (fun i σ H' => ∃ s5 : Option V, σ = [some (.ref a), some (.ref b), some (.ref c), some (.ref r), some (.ref N), s5, none, none] ∧ Gr Tb H2 H' ∧ H' p = some (.lst (zs.map V.str)) ∧ ∀ (j : Nat) y, j < i → zs[j]? = some y → y ∈ es.map (·.name))
      ⟨_, rfl, g5, upd_same, fun j y h => absurd h (Nat.not_lt_zero _)⟩ (fun i σ H' _ ⟨_, _, _, h, _⟩ => SqL.of h) ?_ (fun σ H3 ⟨s5, e, g6, _, kn⟩ => ?_)⟩
    · rintro i x σ H3 hx ⟨s5, rfl, g6, hp3, kn⟩
      rw [List.getElem?_map] at hx
      cases hy : zs[i]? with
      | none => rw [hy] at hx; cases hx
      | some y =>
        rw [hy] at hx
        cases hx
        refine ⟨_, rfl, _, rfl, N, _, rfl, dgetO (g6.at hN2 .dK) y, _, rfl, ?_⟩
        by_cases hk : y ∈ es.map (·.name)
        · rw [get?_numOf (nm _ hk)]
          refine ⟨_, rfl, g6, hp3, fun j z h hj => ?_⟩
          rcases Nat.lt_succ_iff_lt_or_eq.mp h with h | rfl
          · exact kn j z h hj
          · rw [hy] at hj
            cases hj
            exact hk
        · rw [get?_none (d := numOf es' _) (fun z => hk (mn _ (by unfold numOf at z; rw [List.map_map] at z; exact z)))]
          exact ⟨_, rfl, _, rfl, fun dd hdd => k2 y dd _ (.inl (first_name hpz hso hy hk fun j z h hj y1 => y1 (kn j z h hj))) ((g4.trans g6).trans (Gr.new hdd)) upd_same⟩
    · subst e
      rw [List.length_map] at kn
      have kn2 : ∀ q ∈ sp, q.1 ∈ es.map (·.name) := fun q hq => by
        obtain ⟨j, hj⟩ := List.mem_iff_getElem?.mp (hpz.mem_iff.mpr (List.mem_map.mpr ⟨q, hq, rfl⟩))
        exact kn j q.1 (List.getElem?_eq_some_iff.mp hj).1 hj
      have hl3 := Paired.len hc3
      refine ⟨_, rfl, r, rfl, ⟨_, SqL.of (g6.at hr2 .lst)⟩, for_list (K := K) (a := r) (xs := ys) (fun i σ H' => ∃ s5 s6 s7 : Option V, σ = [some (.ref a), some (.ref b), some (.ref c), some (.ref r), some (.ref N), s5, s6, s7] ∧ Gr Tb H2 H' ∧ ∀ (j : Nat) y, j < i → es'[j]? = some y → fitE es st sp y)
        ⟨_, _, _, rfl, g6, fun j y h => absurd h (Nat.not_lt_zero _)⟩ (fun i σ H' _ ⟨_, _, _, _, g, _⟩ => SqL.of (g.at hr2 .lst)) ?_ ?_⟩
      rotate_left
      · rintro σ H' ⟨_, _, _, rfl, g, fit⟩
        rw [hl3] at fit
        refine k1 ⟨nd, few, kn2, fun e he => ?_⟩ H' (g4.trans g)
        obtain ⟨j, hj⟩ := List.mem_iff_getElem?.mp (hp.mem_iff.mpr he)
        exact fit j e (List.getElem?_eq_some_iff.mp hj).1 hj
      rintro i x σ H4 hx ⟨s5, s6, s7, rfl, g7, fit⟩
      obtain ⟨e, he, t, lp, rfl, ht1, hlp⟩ := Paired.at hc3 hx
      have hm : e ∈ es := hp.mem_iff.mp (List.mem_of_getElem? he)
      have hsp4 := (g4.trans g7).at hsp .dK
      have next : fitE es st sp e → ∀ (j : Nat) y, j < i + 1 → es'[j]? = some y → fitE es st sp y := fun f j y h hj => by
        rcases Nat.lt_succ_iff_lt_or_eq.mp h with h | rfl
        · exact fit j y h hj
        · rw [he] at hj
          cases hj
          exact f
      have raise : ∀ {H5 : Hp}, ¬ fitE es st sp e → Gr Tb H2 H5 → ∀ dd, H5 dd = none → E (.ref (He.ga K "InvalidSplits")) (some dd) (upd H5 dd (.xd [("value", .str e.name)])) := fun nf g dd hdd => k2 e.name dd _ (.inr ⟨kn2, es', i, e, hp, ho, he, rfl, nf, fit⟩) ((g4.trans g).trans (Gr.new hdd)) upd_same
      refine gtup3 (g7.at ht1 .tup) ⟨_, rfl, c, rfl, IsD.num hsp4, _, rfl, _, dgetO hsp4 e.name, ?_⟩
      rw [getO]
      refine ⟨_, _, rfl, rfl, _, rfl, ?_⟩
      by_cases f1 : 0 ≤ getD sp e.name
      rotate_left
      · have n1 : ¬ fitE es st sp e := fun f => f1 f.1
        rw [decide_eq_false f1]
        refine ⟨_, rfl, ?_⟩
        exact ⟨_, rfl, _, rfl, raise n1 g7⟩
      rw [decide_eq_true f1]
      refine ⟨_, rfl, rd_nil (SqL.of (g7.at hlp .lst)) fun q hqn => ⟨_, rfl, ?_⟩⟩
      have g8 : Gr Tb H2 (upd H4 q (.lst [])) := g7.trans (Gr.new hqn)
      cases hps : e.parts with
      | nil =>
        refine ⟨_, _, rfl, rfl, _, rfl, ?_⟩
        by_cases f2 : getD sp e.name ≤ 0
        · rw [decide_eq_true f2]
          exact ⟨_, _, _, rfl, g8, next ⟨f1, by rw [if_pos hps]; exact f2⟩⟩
        · rw [decide_eq_false f2]
          exact ⟨_, rfl, _, rfl, raise (fun f => f2 (by have := f.2; rw [if_pos hps] at this; exact this)) g8⟩
      | cons p0 ps =>
        have np : ¬ e.parts = [] := by rw [hps]; simp
        refine ⟨_, rfl, _, rfl, N, _, rfl, dgetS (g8.at hN2 .dK) (get?_numOf (nm _ (List.mem_map.mpr ⟨e, hm, rfl⟩))), _, _, rfl, rfl, _, rfl, ?_⟩
        by_cases f2 : getD sp e.name ≤ pn es st sp e.name
        · rw [decide_eq_true f2]
          exact ⟨_, _, _, rfl, g8, next ⟨f1, by rw [if_neg np]; exact f2⟩⟩
        · rw [decide_eq_false f2]
          exact ⟨_, rfl, _, rfl, raise (fun f => f2 (by have := f.2; rw [if_neg np] at this; exact this)) g8⟩
end
end Sk
namespace Sk
open PySem PySem.Spec PyProof.Rows L2
abbrev s_kinds : Stmt := topS 21
abbrev N_kinds : List Str := ["catalogue", "entry"]
theorem sc_kinds : FnScope N_kinds ["catalogue"] (defScope s_kinds) := ⟨rfl, rfl, rfl, by decide +kernel, rfl, by decide +kernel, by decide +kernel⟩
def sp_kinds (Tb : List (Addr × Str)) (K : PySem.W.Frag) : Sp := fun vs H Q E => ∃ (a : Addr) (xs : List V) (es : List Ent), vs = [.ref a] ∧ SqL K H a xs ∧ CatAt H xs es ∧ LamX.Tabs Tb H ∧ Sized es ∧
  (∀ (i : Nat) dd H', BadCat es i → Gr Tb H H' → H' dd = some (.xd [("value", .int i)]) → E (.ref (He.ga K "InvalidCatalogue")) (some dd) H') ∧
  ∀ r H' es', Valid es → es'.Perm es → Ordered es' → Gr Tb H H' → Nw H r → H' r = some (.lst ((es'.map (·.name)).map V.str)) → Q (.ref r) H'
section
variable {P : Program} {w : World} {K : PySem.W.Frag} {mg : Str → Option Value} {base : Heap} {Tb : List (Addr × Str)}
theorem ok_kinds {f : Addr} {fd : FuncData} (F : FnP K "kinds" s_kinds f fd) (T : Tx K mg) (GX_check_catalogue : FnX P w K mg base "check_catalogue" 3 ["catalogue"] (sp_check_catalogue Tb K)) (G_ordered : Fn P w K mg base "ordered" 4 ["catalogue"] (sp_ordered Tb K)) : FnOk P w K mg base (L2N.CX P w) 5 f fd ["catalogue"] (sp_kinds Tb K) := by
  refine F.ok (CX := L2N.CX P w) sc_kinds (fun vs H Q E h => ?_) (fun cdv A outer s H vs Q E hr h => ?_)
  · obtain ⟨_, _, _, rfl, _⟩ := h
    rfl
  · obtain ⟨a, xs, es, rfl, ha, hc, ht, hz, kc, k⟩ := h
    refine ⟨_, (pss_cons (ps_expr (pe_fnX GX_check_catalogue (hr.mono (by decide)) (L2N.takes_of rfl rfl rfl rfl) (pa_cons (pv 0) pa_nil)))
      (pss_one (ps_ret (pe_lc (own := [("entry", 1)]) (g := (gName 1)) (tt := tYes) rfl sc_kinds.nd (piL (K := K) rfl (pe_fn G_ordered (hr.mono (by decide)) (pa_cons (pv 0) pa_nil))) (blkOk_by (N := N_kinds) (sc := (defScope s_kinds)) (by decide +kernel)) (fun _ _ _ _ _ => (pg_name (i := 1) sc_kinds.nd rfl (Or.inl rfl))) (fun _ _ _ _ _ => pts_nil) (fun _ _ _ _ _ => (pe_ix (ixT (K := K) rfl) (pv 1) pe_int (fun _ _ => rfl))))))), ?_⟩
    refine ⟨_, rfl, a, xs, es, rfl, ha, hc, hz.1, hz.2, fun hv H1 g1 => ?_, fun i dd H' hb g hdd => kc i dd H' hb g hdd⟩
    refine ⟨_, rfl, a, xs, es, rfl, g1.ext_seq ha, CatAt.gr g1 hc, g1.tab ht, hv.few, fun r H2 ys es' hp ho hc' g2 hr => ?_⟩
    have hc2 := CatAt.gr g2 hc'
    have g3 : Gr Tb H2 (upd H2 r (.lst ys)) := Gr.new hr
    refine ⟨r, rfl, ⟨_, SqL.of upd_same⟩, fun D hD => lc_fm (Tb := Tb) (xs := ys) walk_list rfl (itemAt H2 0) hD ?_ (fun H' g => SqL.of (g.at upd_same .lst)) (fun j v H' hv g Rk Rs hk hs => ?_) fun H' g hD' => ?_⟩
    · have := hv.few
      rw [Paired.len hc', hp.length_eq]
      omega
    · obtain ⟨e, he, t, lp, rfl, h1, h2⟩ := Paired.at hc2 hv
      exact ⟨rfl, _, rfl, t, _, _, _, rfl, rfl, SqT.of ((g3.trans g).at h1 .tup), atI_nat (j := 0) rfl, hk _ _ (by rw [itemAt_tup h1]; rfl) (Gr.refl _)⟩
    · have e : ys.filterMap (itemAt H2 0) = (es'.map (·.name)).map V.str := by
        rw [List.map_map]
        exact fm_paired (fun v e ⟨t, lp, h0, h1, h2⟩ => by rw [h0, itemAt_tup h1]; rfl) hc2
      rw [e] at hD'
      exact k D H' es' hv hp ho ((g1.trans g2).trans (g3.trans g)) ((g1.trans (g2.trans g3)).nw (.of hD)) hD'
end
end Sk
namespace Sk
open PySem PySem.Spec PyProof.Rows L2
abbrev s_pieces : Stmt := topS 22
abbrev N_pieces : List Str := ["catalogue", "stock", "splits", "entries"]
theorem sc_pieces : FnScope N_pieces ["catalogue", "stock", "splits"] (defScope s_pieces) := ⟨rfl, rfl, rfl, by decide +kernel, rfl, by decide +kernel, by decide +kernel⟩
def sp_pieces (Tb : List (Addr × Str)) (K : PySem.W.Frag) : Sp := fun vs H Q E => ∃ (a b c : Addr) (xs : List V) (es : List Ent) (st sp : Num), vs = [.ref a, .ref b, .ref c] ∧ SqL K H a xs ∧ CatAt H xs es ∧ H b = some (.dK (dS st)) ∧ H c = some (.dK (dS sp)) ∧ LamX.Tabs Tb H ∧ Sized es ∧ (st.map (·.1)).Nodup ∧ st.length < 64 ∧ (sp.map (·.1)).Nodup ∧ sp.length < 64 ∧ ErrCS Tb K H E es st ∧
  (∀ x dd H', Valid es → StockOk es st → BadSp es st sp x → Gr Tb H H' → H' dd = some (.xd [("value", .str x)]) → E (.ref (He.ga K "InvalidSplits")) (some dd) H') ∧
  ∀ r H' es', Valid es → StockOk es st → SplitsOk es st sp → es'.Perm es → Ordered es' → Gr Tb H H' → Nw H r → H' r = some (.dK (dS (posN es' (pn es st sp)))) → Q (.ref r) H'
theorem cleanN_numOf {es : List Ent} {d : Num} {f : Str → Int} (h : ∀ e ∈ es, getD d e.name = f e.name) : cleanN es d = posN es f := by
  have e1 : (es.filter fun e => decide (getD d e.name ≠ 0)) = es.filter fun e => decide (f e.name ≠ 0) := List.filter_congr fun e he => by rw [h e he]
  unfold cleanN posN numOf
  rw [e1]
  exact List.map_congr_left fun e he => by rw [h e (List.mem_filter.mp he).1]
section
variable {P : Program} {w : World} {K : PySem.W.Frag} {mg : Str → Option Value} {base : Heap} {Tb : List (Addr × Str)}
theorem ok_pieces {f : Addr} {fd : FuncData} (F : FnP K "pieces" s_pieces f fd) (T : Tx K mg) (GX_check_catalogue : FnX P w K mg base "check_catalogue" 3 ["catalogue"] (sp_check_catalogue Tb K)) (GX_check_splits : FnX P w K mg base "check_splits" 5 ["catalogue", "stock", "splits"] (sp_check_splits Tb K)) (GX_check_stock : FnX P w K mg base "check_stock" 3 ["catalogue", "stock"] (sp_check_stock Tb K)) (G_clean : Fn P w K mg base "clean" 1 ["entries", "numbers"] (sp_clean Tb K)) (G_ordered : Fn P w K mg base "ordered" 4 ["catalogue"] (sp_ordered Tb K)) (G_piece_numbers : Fn P w K mg base "piece_numbers" 1 ["entries", "stock", "splits"] (sp_piece_numbers Tb K)) : FnOk P w K mg base (L2N.CX P w) 6 f fd ["catalogue", "stock", "splits"] (sp_pieces Tb K) := by
  refine F.ok (CX := L2N.CX P w) sc_pieces (fun vs H Q E h => ?_) (fun cdv A outer s H vs Q E hr h => ?_)
  · obtain ⟨_, _, _, _, _, _, _, rfl, _⟩ := h
    rfl
  · obtain ⟨a, b, c, xs, es, st, sp, rfl, ha, hc, hb, hsp, ht, hz, nd, few, nd2, few2, ⟨kc, ks⟩, kp, k⟩ := h
    refine ⟨_, (pss_cons (ps_expr (pe_fnX GX_check_catalogue (hr.mono (by decide)) (L2N.takes_of rfl rfl rfl rfl) (pa_cons (pv 0) pa_nil)))
      (pss_cons (ps_expr (pe_fnX GX_check_stock (hr.mono (by decide)) (L2N.takes_of rfl rfl rfl rfl) (pa_cons (pv 0) (pa_cons (pv 1) pa_nil))))
      (pss_cons (ps_expr (pe_fnX GX_check_splits (hr.mono (by decide)) (L2N.takes_of rfl rfl rfl rfl) (pa_cons (pv 0) (pa_cons (pv 1) (pa_cons (pv 2) pa_nil)))))
      (pss_cons (ps_set (i := 3) sc_pieces.nd rfl (Or.inl rfl) (pe_fn G_ordered (hr.mono (by decide)) (pa_cons (pv 0) pa_nil)))
      (pss_one (ps_ret (pe_fn G_clean (hr.mono (by decide)) (pa_cons (pv 3) (pa_cons (pe_fn G_piece_numbers (hr.mono (by decide)) (pa_cons (pv 3) (pa_cons (pv 1) (pa_cons (pv 2) pa_nil)))) pa_nil))))))))), ?_⟩
    refine ⟨_, rfl, a, xs, es, rfl, ha, hc, hz.1, hz.2, fun hv H1 g1 => ?_, fun i dd H' hb g hdd => kc i dd H' hb g hdd⟩
    refine ⟨_, rfl, _, rfl, a, b, xs, es, st, rfl, g1.ext_seq ha, CatAt.gr g1 hc, g1.at hb .dK, nd, few, hv.few, fun so H2 g2 => ?_, fun x dd H' hx g hdd => ks x dd H' hv hx (g1.trans g) hdd⟩
    have g12 := g1.trans g2
    refine ⟨_, rfl, _, rfl, _, rfl, a, b, c, xs, es, st, sp, rfl, g12.ext_seq ha, CatAt.gr g12 hc, g12.at hb .dK, g12.at hsp .dK, g12.tab ht, hv, nd2, few2, fun ok H3 g3 => ?_, fun x dd H' hx g hdd => kp x dd H' hv so hx (g12.trans g) hdd⟩
    have g13 := g12.trans g3
    refine ⟨_, rfl, a, xs, es, rfl, g13.ext_seq ha, CatAt.gr g13 hc, g13.tab ht, hv.few, fun r H4 ys es' hp ho hc4 g4 hr => ?_⟩
    have g5 : Gr Tb H3 (upd H4 r (.lst ys)) := g4.trans (Gr.new hr)
    have hc5 : CatAt (upd H4 r (.lst ys)) ys es' := CatAt.gr g5 hc4
    have hv' := hv.perm hp
    have g15 := g13.trans g5
    refine ⟨_, rfl, _, rfl, _, rfl, _, rfl, r, b, c, ys, es', st, sp, rfl, SqL.of upd_same, hc5, g15.at hb .dK, g15.at hsp .dK, hv'.nodup, hv'.known, hv'.few, fun N H6 g6 hN hN6 => ?_⟩
    refine ⟨r, N, ys, es', _, rfl, SqL.of (g6.at upd_same .lst), CatAt.gr g6 hc5, hN6, hv'.nodup, hv'.few, fun z H7 g7 hz hz7 => ?_⟩
    rw [cleanN_numOf (f := pn es st sp) fun e he => by rw [getD_numOf (List.mem_map.mpr ⟨e, he, rfl⟩), pn_perm hp]] at hz7
    exact k z H7 es' hv so ok hp ho ((g15.trans g6).trans g7) ((g15.trans g6).nw hz) hz7
end
end Sk
namespace Sk
open PySem PySem.Spec PyProof.Rows L2
abbrev s_whole_pieces : Stmt := topS 23
abbrev N_whole_pieces : List Str := ["catalogue", "stock", "splits", "numbers", "entries", "name", "number"]
theorem sc_whole_pieces : FnScope N_whole_pieces ["catalogue", "stock", "splits"] (defScope s_whole_pieces) := ⟨rfl, rfl, rfl, by decide +kernel, rfl, by decide +kernel, by decide +kernel⟩
def sp_whole_pieces (Tb : List (Addr × Str)) (K : PySem.W.Frag) : Sp := fun vs H Q E => ∃ (a b c : Addr) (xs : List V) (es : List Ent) (st sp : Num), vs = [.ref a, .ref b, .ref c] ∧ SqL K H a xs ∧ CatAt H xs es ∧ H b = some (.dK (dS st)) ∧ H c = some (.dK (dS sp)) ∧ LamX.Tabs Tb H ∧ Sized es ∧ (st.map (·.1)).Nodup ∧ st.length < 64 ∧ (sp.map (·.1)).Nodup ∧ sp.length < 64 ∧ ErrCS Tb K H E es st ∧
  (∀ x dd H', Valid es → StockOk es st → BadSp es st sp x → Gr Tb H H' → H' dd = some (.xd [("value", .str x)]) → E (.ref (He.ga K "InvalidSplits")) (some dd) H') ∧
  ∀ r H' es', Valid es → StockOk es st → SplitsOk es st sp → es'.Perm es → Ordered es' → Gr Tb H H' → Nw H r → H' r = some (.dK (dS (posN es' fun x => pn es st sp x - getD sp x))) → Q (.ref r) H'
section
variable {P : Program} {w : World} {K : PySem.W.Frag} {mg : Str → Option Value} {base : Heap} {Tb : List (Addr × Str)}
theorem ok_whole_pieces {f : Addr} {fd : FuncData} (F : FnP K "whole_pieces" s_whole_pieces f fd) (T : Tx K mg) (G_clean : Fn P w K mg base "clean" 1 ["entries", "numbers"] (sp_clean Tb K)) (G_ordered : Fn P w K mg base "ordered" 4 ["catalogue"] (sp_ordered Tb K)) (GX_pieces : FnX P w K mg base "pieces" 6 ["catalogue", "stock", "splits"] (sp_pieces Tb K)) : FnOk P w K mg base (L2N.CX P w) 7 f fd ["catalogue", "stock", "splits"] (sp_whole_pieces Tb K) := by
  refine F.ok (CX := L2N.CX P w) sc_whole_pieces (fun vs H Q E h => ?_) (fun cdv A outer s H vs Q E hr h => ?_)
  · obtain ⟨_, _, _, _, _, _, _, rfl, _⟩ := h
    rfl
  · obtain ⟨a, b, c, xs, es, st, sp, rfl, ha, hc, hb, hsp, ht, hz, nd, few, nd2, few2, ec, kp, k⟩ := h
    refine ⟨_, (pss_cons (ps_set (i := 3) sc_whole_pieces.nd rfl (Or.inl rfl) (pe_fnX GX_pieces (hr.mono (by decide)) (L2N.takes_of rfl rfl rfl rfl) (pa_cons (pv 0) (pa_cons (pv 1) (pa_cons (pv 2) pa_nil)))))
      (pss_cons (ps_set (i := 4) sc_whole_pieces.nd rfl (Or.inl rfl) (pe_fn G_ordered (hr.mono (by decide)) (pa_cons (pv 0) pa_nil)))
      (pss_one (ps_ret (pe_fn G_clean (hr.mono (by decide)) (pa_cons (pv 4) (pa_cons (pe_lock (pe_dc (own := [("name", 5), ("number", 6)]) (g := (gTup K 2 (gCons (gName 5) (gCons (gName 6) gNil)))) (tt := tYes) rfl sc_whole_pieces.nd (pi_items (pv 3)) (blkOk_by (N := N_whole_pieces) (sc := (defScope s_whole_pieces)) (by decide +kernel)) (fun _ _ _ _ _ => (pg_tup rfl (pgs_cons (pg_name (i := 5) sc_whole_pieces.nd rfl (Or.inl rfl)) (pgs_cons (pg_name (i := 6) sc_whole_pieces.nd rfl (Or.inl rfl)) pgs_nil)))) (fun _ _ _ _ _ => pts_nil) (fun _ _ _ _ _ => (pv 5)) (fun _ _ _ _ _ => (pe_op op_sub (pv 6) (pe_dget2 (hu_of hr) (pv 2) (pv 5) pe_int ⟨rfl, rfl, rfl, rfl⟩))))) pa_nil))))))), ?_⟩
    refine ⟨_, rfl, _, rfl, _, rfl, a, b, c, xs, es, st, sp, rfl, ha, hc, hb, hsp, ht, hz, nd, few, nd2, few2, ec, kp, fun N H1 es1 hv so ok hp1 ho1 g1 hN hN1 => ?_⟩
    refine ⟨_, rfl, a, xs, es, rfl, g1.ext_seq ha, CatAt.gr g1 hc, g1.tab ht, hv.few, fun r H2 ys es' hp ho hc2 g2 hr => ?_⟩
    have g3 : Gr Tb H1 (upd H2 r (.lst ys)) := g2.trans (Gr.new hr)
    have hc3 : CatAt (upd H2 r (.lst ys)) ys es' := CatAt.gr g3 hc2
    have hN3 := g3.at hN1 .dK
    have Nc : N ≠ c := fun z => by
      obtain ⟨ps, e⟩ := hN _ (z ▸ hsp)
      cases e
    have hv' := hv.perm hp
    have nd1 := hv.perm hp1 |>.nodup
    generalize hf : pn es st sp = f at hN1 hN3 k
    generalize hd : posN es1 f = d at hN1 hN3
    refine ⟨_, rfl, N, _, hN3, trivial, fun od => ⟨_, rfl, N, od, _, rfl, upd_same, fun Z hZ => dc_gen (Tb := Tb) walk_items (fun i => d[i]?.bind fun q => some (q.1, q.2 - getD sp q.1)) hZ ?_ (fun H' g => g.at upd_same .frz) (fun i H3 x H4 hy => ?_) (fun i x H3 H4 hi g4 hy Rk Rs hk hs => ?_) fun H4 g4 hZ4 => ?_⟩⟩
    · rw [dS_len, ← hd]
      unfold posN
      rw [numOf_len]
      have h1 := List.length_filter_le (fun e => decide (f e.name ≠ 0)) es1
      have h2 := hp1.length_eq
      have h3 := hv.few
      omega
    · obtain ⟨T, u, v, e0, e1, e2, e3, e4⟩ := hy
      subst e2
      exact Gr.new e1
    · obtain ⟨T, u, v, e0, e1, e2, e3, e4⟩ := hy
      subst e2
      subst e0
      obtain ⟨q, hq⟩ : ∃ q, d[i]? = some q := ⟨_, List.getElem?_eq_getElem (by rw [dS_len] at hi; exact hi)⟩
      have hq2 : (dS d)[i]? = some (Sum.inr q.1, V.int q.2) := by
        unfold dS
        rw [List.getElem?_map, hq]
        rfl
      have e3' : (dS d)[i]?.map (fun kv => kV kv.1) = some u := e3
      have e4' : (dS d)[i]?.map Prod.snd = some v := e4
      rw [hq2] at e3' e4'
      cases e3'
      cases e4'
      have hsp4 : upd H3 T (.tup [V.str q.1, V.int q.2]) c = some (.dK (dS sp)) := g4.at (by rw [upd_ne Nc.symm]; exact g3.at (g1.at hsp .dK) .dK) .dK
      refine gtup2 upd_same ⟨rfl, ?_⟩
      refine ⟨_, rfl, _, rfl, _, rfl, c, rfl, IsD.num hsp4, _, rfl, _, dgetO hsp4 q.1, ?_⟩
      rw [getO]
      refine ⟨_, _, rfl, rfl, hk (q.1, q.2 - getD sp q.1) _ ?_ (Gr.refl _)⟩
      rw [hq]
      rfl
    · have hN4 := g4.at (upd_same (H := upd H2 r (.lst ys)) (a := N) (o := .frz od (.dK (dS d)))) .frz
      refine ⟨hN4, ?_⟩
      have g5 : Gr Tb (upd H2 r (.lst ys)) (upd H4 N (.dK (dS d))) := Gr.unlock hN3 .dK g4 hN4
      rw [dS_len, fm_range] at hZ4
      have ZN : Z ≠ N := fun z => by
        rw [z, upd_same] at hZ
        cases hZ
      have eD : d.filterMap (fun q => some (q.1, q.2 - getD sp q.1)) = numOf (es1.filter fun e => decide (f e.name ≠ 0)) (fun x => f x - getD sp x) := by
        rw [← hd]
        unfold posN numOf
        rw [List.filterMap_map]
        exact congrFun List.filterMap_eq_map _
      rw [eD, putAll_new _ _ (by rw [List.nil_append, numOf_names]; exact nd1.sublist ((List.filter_sublist (l := es1)).map _)), List.nil_append] at hZ4
      refine ⟨r, Z, ys, es', _, rfl, SqL.of (g5.at upd_same .lst), CatAt.gr g5 hc3, by rw [upd_ne ZN]; exact hZ4, hv'.nodup, hv'.few, fun W H6 g6 hW hW6 => ?_⟩
      rw [cleanN_numOf (f := fun x => f x - getD sp x) ?_] at hW6
      · exact k W H6 es' hv so ok hp ho ((g1.trans (g3.trans g5)).trans g6) ((g1.trans (g3.trans g5)).nw hW) hW6
      · intro e he
        have hm : e ∈ es := hp.mem_iff.mp he
        obtain ⟨f1, f2⟩ := ok.fits e hm
        rw [hf] at f2
        by_cases q : f e.name = 0
        · rw [getD_none, q]
          · have : getD sp e.name ≤ 0 := by
              split at f2
              · exact f2
              · omega
            omega
          · intro hm2
            rw [numOf_names] at hm2
            obtain ⟨e2, he2, z⟩ := List.mem_map.mp hm2
            have := of_decide_eq_true (List.mem_filter.mp he2).2
            rw [z] at this
            exact this q
        · refine getD_numOf (List.mem_map.mpr ⟨e, List.mem_filter.mpr ⟨hp1.mem_iff.mpr hm, decide_eq_true q⟩, rfl⟩)
end
end Sk
namespace Sk
open PySem PySem.Spec PyProof.Rows L2
theorem behind_of : ∀ {es : List Ent}, Ordered es → (es.map (·.name)).Nodup → (∀ e ∈ es, ∀ p ∈ e.parts, ∃ e' ∈ es, e'.name = p ∧ e'.w < e.w) → (∀ e ∈ es, ∀ e' ∈ es, e'.name = e.name → e' = e) → Behind es := by
  intro es
  suffices h : ∀ (l : List Ent) (m : List Ent), Ordered (m ++ l) → ((m ++ l).map (·.name)).Nodup → (∀ e ∈ l, ∀ p ∈ e.parts, ∃ e' ∈ m ++ l, e'.name = p ∧ e'.w < e.w) → Behind l from fun ho hn hp _ => h es [] ho hn hp
  intro l
  induction l with
  | nil => intro _ _ _ _; exact trivial
  | cons e l ih =>
    intro m ho hn hp
    refine ⟨fun p hpp => ?_, ih (m ++ [e]) (by rw [List.append_assoc]; exact ho) (by rw [List.append_assoc]; exact hn) fun e2 he2 p hpp => ?_⟩
    · obtain ⟨e', he', rfl, hw⟩ := hp e (List.mem_cons_self ..) p hpp
      have ne : e' ≠ e := fun z => by rw [z] at hw; omega
      have hl : e' ∈ l := by
        rcases List.mem_append.mp he' with z | z
        · have h1 : kLt e.key e'.key = false := (List.pairwise_append.mp ho).2.2 e' z e (List.mem_cons_self ..)
          rcases kLt_no.mp h1 with h2 | ⟨h2, _⟩
          · have h3 : (0 : Int) - e'.w < 0 - e.w := h2
            omega
          · have h3 : (0 : Int) - e.w = 0 - e'.w := h2
            omega
        · exact (List.mem_cons.mp z).resolve_left ne
      refine ⟨List.mem_map.mpr ⟨e', hl, rfl⟩, fun z => ?_⟩
      rw [List.map_append, List.map_cons] at hn
      have h1 := (List.nodup_append.mp hn).2.1
      rw [List.nodup_cons] at h1
      exact h1.1 (List.mem_map.mpr ⟨e', hl, z⟩)
    · obtain ⟨e', he', h1, h2⟩ := hp e2 (List.mem_cons_of_mem _ he2) p hpp
      exact ⟨e', by rw [List.append_assoc]; exact he', h1, h2⟩
theorem Valid.behind {es : List Ent} (v : Valid es) (o : Ordered es) : Behind es := behind_of o v.nodup v.lighter fun e he e' he' z => by
  obtain ⟨i, hi⟩ := List.mem_iff_getElem?.mp he
  obtain ⟨j, hj⟩ := List.mem_iff_getElem?.mp he'
  have ij : j = i := nodup_ix v.nodup (x := e.name) (by rw [List.getElem?_map, hj, ← z]; rfl) (by rw [List.getElem?_map, hi]; rfl)
  rw [ij, hi] at hj
  exact (Option.some.inj hj).symm
theorem getD_pos {d : Num} (h : ∀ q ∈ d, 0 ≤ q.2) (x : Str) : 0 ≤ getD d x := by
  unfold getD get?
  cases q : d.find? fun q => decide (q.1 = x) with
  | none => exact Int.le_refl _
  | some z => exact h z (List.mem_of_find?_eq_some q)
end Sk
namespace Sk
open PySem PySem.Spec PyProof.Rows L2
/-! how many splits one piece needs -/
def sumE (es : List Ent) (g : Str → Int) : Int := (es.map fun e => g e.name).sum
def IsNeed (es : List Ent) (g : Str → Int) : Prop := ∀ e ∈ es, g e.name = (if e.parts = [] then 0 else 1) + (e.parts.map g).sum
theorem sumE_cons (e : Ent) (es : List Ent) (g : Str → Int) : sumE (e :: es) g = g e.name + sumE es g := by
  unfold sumE
  rw [List.map_cons, List.sum_cons]
theorem sumE_add (es : List Ent) (g h : Str → Int) : sumE es (fun x => g x + h x) = sumE es g + sumE es h := by
  induction es with
  | nil => rfl
  | cons e es ih =>
    rw [sumE_cons, sumE_cons, sumE_cons, ih]
    omega
theorem sumE_congr {es : List Ent} {g h : Str → Int} (e : ∀ x ∈ es, g x.name = h x.name) : sumE es g = sumE es h := by
  unfold sumE
  rw [List.map_congr_left e]
theorem sumE_zero {es : List Ent} {g : Str → Int} (h : ∀ e ∈ es, g e.name = 0) : sumE es g = 0 := by
  induction es with
  | nil => rfl
  | cons e es ih =>
    rw [sumE_cons, h e (List.mem_cons_self ..), ih fun x hx => h x (List.mem_cons_of_mem _ hx)]
    rfl
theorem sumE_nonneg {es : List Ent} {g : Str → Int} (h : ∀ e ∈ es, 0 ≤ g e.name) : 0 ≤ sumE es g := by
  induction es with
  | nil => exact Int.le_refl _
  | cons e es ih =>
    rw [sumE_cons]
    have h1 := h e (List.mem_cons_self ..)
    have h2 := ih fun x hx => h x (List.mem_cons_of_mem _ hx)
    omega
theorem sumE_zero_at {es : List Ent} {g : Str → Int} (h : ∀ e ∈ es, 0 ≤ g e.name) (z : sumE es g = 0) : ∀ e ∈ es, g e.name = 0 := by
  induction es with
  | nil => intro e he; cases he
  | cons a es ih =>
    rw [sumE_cons] at z
    have h1 := h a (List.mem_cons_self ..)
    have h2 := sumE_nonneg fun x hx => h x (List.mem_cons_of_mem _ hx)
    intro e he
    rcases List.mem_cons.mp he with rfl | he
    · omega
    · exact ih (fun x hx => h x (List.mem_cons_of_mem _ hx)) (by omega) e he
theorem sumE_pick {es : List Ent} {x : Str} {c : Int} (nd : (es.map (·.name)).Nodup) (h : x ∈ es.map (·.name)) : sumE es (fun y => if x = y then c else 0) = c := by
  induction es with
  | nil => cases h
  | cons e es ih =>
    rw [sumE_cons]
    rw [List.map_cons, List.nodup_cons] at nd
    rw [List.map_cons] at h
    by_cases q : x = e.name
    · rw [if_pos q, sumE_zero fun a ha => if_neg fun z => nd.1 (List.mem_map.mpr ⟨a, ha, z.symm.trans q⟩)]
      omega
    · rw [if_neg q, ih nd.2 ((List.mem_cons.mp h).resolve_left q)]
      omega
theorem sumE_amt {es : List Ent} (nd : (es.map (·.name)).Nodup) (g : Str → Int) : ∀ {l : Num}, (∀ q ∈ l, q.1 ∈ es.map (·.name)) → sumE es (fun x => amt l x * g x) = (l.map fun q => q.2 * g q.1).sum
  | [], _ => by
    rw [sumE_zero fun e _ => by show (0 : Int) * _ = 0; rw [Int.zero_mul]]
    rfl
  | q :: l, h => by
    rw [List.map_cons, List.sum_cons, ← sumE_amt nd g fun z hz => h z (List.mem_cons_of_mem _ hz), ← sumE_pick (c := q.2 * g q.1) nd (h q (List.mem_cons_self ..)), ← sumE_add]
    refine sumE_congr fun e _ => ?_
    show amt (q :: l) e.name * g e.name = (if q.1 = e.name then q.2 * g q.1 else 0) + amt l e.name * g e.name
    rw [amt_cons, Int.add_mul]
    by_cases c : q.1 = e.name
    · rw [if_pos c, if_pos c, c]
    · rw [if_neg c, if_neg c, Int.zero_mul]
theorem sum_mul (c : Int) (g : Str → Int) (l : List Str) : (l.map fun p => c * g p).sum = c * (l.map g).sum := by
  induction l with
  | nil => rw [List.map_nil, List.map_nil, List.sum_nil, Int.mul_zero]
  | cons p l ih => rw [List.map_cons, List.map_cons, List.sum_cons, List.sum_cons, ih, Int.mul_add]
theorem IsNeed.tail {e : Ent} {es : List Ent} {g : Str → Int} (h : IsNeed (e :: es) g) : IsNeed es g := fun x hx => h x (List.mem_cons_of_mem _ hx)
/-- all splits: for each piece as many as it needs -/
theorem total_need : ∀ {es : List Ent} (f g : Str → Int), Behind es → (es.map (·.name)).Nodup → IsNeed es g → ((fs es f).map (·.2)).sum = sumE es (fun x => f x * g x)
  | [], _, _, _, _, _ => rfl
  | e :: es, f, g, b, nd, n => by
    rw [List.map_cons, List.nodup_cons] at nd
    rw [fs, List.map_append, List.sum_append, total_need _ g b.2 nd.2 n.tail, sumE_cons]
    have h1 : sumE es (fun x => addAll f (e.parts.map fun p => (p, f e.name)) x * g x) = sumE es (fun x => f x * g x) + f e.name * (e.parts.map g).sum := by
      have h2 := sumE_amt nd.2 g (l := e.parts.map fun p => (p, f e.name)) fun q hq => by
        obtain ⟨p, hp, rfl⟩ := List.mem_map.mp hq
        exact (b.1 p hp).1
      rw [List.map_map] at h2
      have h3 : ((fun q : Str × Int => q.2 * g q.1) ∘ fun p => (p, f e.name)) = fun p => f e.name * g p := rfl
      rw [h3, sum_mul] at h2
      rw [← h2, ← sumE_add]
      refine sumE_congr fun x _ => ?_
      show addAll f _ x.name * g x.name = f x.name * g x.name + amt _ x.name * g x.name
      rw [addAll_at, Int.add_mul]
    rw [h1, n e (List.mem_cons_self ..)]
    by_cases c : e.parts = []
    · rw [if_pos c, if_pos c, c]
      simp
    · rw [if_neg c, if_neg c]
      show ([f e.name] : List Int).sum + _ = _
      rw [Int.mul_add, List.sum_cons, List.sum_nil]
      omega
theorem Behind.known : ∀ {es : List Ent}, Behind es → ∀ e ∈ es, ∀ p ∈ e.parts, p ∈ es.map (·.name) := fun b e he p hp => (Behind.at b he p hp).1
theorem need_ex : ∀ {es : List Ent}, Behind es → (es.map (·.name)).Nodup → ∃ g, IsNeed es g ∧ ∀ e ∈ es, 0 ≤ g e.name
  | [], _, _ => ⟨fun _ => 0, (fun _ h => by cases h), (fun _ h => by cases h)⟩
  | e :: es, b, nd => by
    rw [List.map_cons, List.nodup_cons] at nd
    obtain ⟨g, n, p⟩ := need_ex b.2 nd.2
    have other : ∀ x ∈ es.map (·.name), upF g e.name ((if e.parts = [] then 0 else 1) + (e.parts.map g).sum) x = g x := fun x hx => by
      unfold upF
      rw [if_neg]
      intro z
      rw [z] at hx
      exact nd.1 hx
    have self : upF g e.name ((if e.parts = [] then 0 else 1) + (e.parts.map g).sum) e.name = (if e.parts = [] then 0 else 1) + (e.parts.map g).sum := if_pos rfl
    have pos : ∀ l : List Str, (∀ x ∈ l, x ∈ es.map (·.name)) → 0 ≤ (l.map g).sum := by
      intro l
      induction l with
      | nil => intro _; exact Int.le_refl _
      | cons x l ih =>
        intro h
        rw [List.map_cons, List.sum_cons]
        obtain ⟨a, ha, rfl⟩ := List.mem_map.mp (h x (List.mem_cons_self ..))
        have h1 := p a ha
        have h2 := ih fun y hy => h y (List.mem_cons_of_mem _ hy)
        omega
    refine ⟨upF g e.name ((if e.parts = [] then 0 else 1) + (e.parts.map g).sum), fun a ha => ?_, fun a ha => ?_⟩
    · rcases List.mem_cons.mp ha with rfl | ha
      · rw [self, List.map_congr_left fun q hq => other q (b.1 q hq).1]
      · rw [other _ (List.mem_map.mpr ⟨a, ha, rfl⟩), n a ha, List.map_congr_left fun q hq => other q (b.2.known a ha q hq)]
    · rcases List.mem_cons.mp ha with rfl | ha
      · rw [self]
        have := pos a.parts fun x hx => (b.1 x hx).1
        split <;> omega
      · rw [other _ (List.mem_map.mpr ⟨a, ha, rfl⟩)]
        exact p a ha
/-- the amounts, entry by entry -/
theorem amt_incs (es : List Ent) (f : Str → Int) (x : Str) : amt (incs es f) x = (es.map fun e => f e.name * amt (ones e.parts) x).sum := by
  have one : ∀ (l : List Str) (c : Int), amt (l.map fun p => (p, c)) x = c * amt (ones l) x := by
    intro l c
    induction l with
    | nil =>
      show (0 : Int) = c * 0
      omega
    | cons p l ih =>
      unfold ones at ih ⊢
      rw [List.map_cons, List.map_cons, amt_cons, amt_cons, ih, Int.mul_add]
      show (if p = x then c else 0) + _ = c * (if p = x then 1 else 0) + _
      split <;> omega
  induction es with
  | nil => rfl
  | cons e es ih =>
    unfold incs at ih ⊢
    rw [List.flatMap_cons, amt_append, ih, List.map_cons, List.sum_cons, one]
/-- one split more of the kind e0 -/
theorem pn_put {es : List Ent} (nd : (es.map (·.name)).Nodup) {e0 : Ent} (h0 : e0 ∈ es) (st c : Num) (x : Str) : pn es st (put c e0.name (getD c e0.name + 1)) x = pn es st c x + amt (ones e0.parts) x := by
  rw [pn_at, pn_at, amt_incs, amt_incs, Int.add_assoc]
  congr 1
  induction es with
  | nil => cases h0
  | cons e es ih =>
    rw [List.map_cons, List.sum_cons, List.map_cons, List.sum_cons]
    rw [List.map_cons, List.nodup_cons] at nd
    rcases List.mem_cons.mp h0 with rfl | h0
    · have h1 : (es.map fun e => getD (put c e0.name (getD c e0.name + 1)) e.name * amt (ones e.parts) x) = es.map fun e => getD c e.name * amt (ones e.parts) x := List.map_congr_left fun a ha => by
        rw [getD_put, if_neg fun z => nd.1 (List.mem_map.mpr ⟨a, ha, z⟩)]
      rw [h1, getD_put, if_pos rfl, Int.add_mul, Int.one_mul]
      omega
    · rw [ih nd.2 h0, getD_put, if_neg (show ¬ e.name = e0.name from fun z => nd.1 (List.mem_map.mpr ⟨e0, h0, z.symm⟩))]
      omega
/-- what the whole pieces need -/
theorem whole_need {es : List Ent} {g : Str → Int} (nd : (es.map (·.name)).Nodup) (kn : ∀ e ∈ es, ∀ p ∈ e.parts, p ∈ es.map (·.name)) (n : IsNeed es g) (st c : Num) (hat : ∀ e ∈ es, e.parts = [] → getD c e.name = 0) :
    sumE es (fun x => (pn es st c x - getD c x) * g x) = sumE es (fun x => getD st x * g x) - sumE es (getD c) := by
  have h1 : sumE es (fun x => amt (incs es (getD c)) x * g x) = sumE es (fun x => getD c x * g x) - sumE es (getD c) := by
    rw [sumE_amt nd g fun q hq => by
      unfold incs at hq
      obtain ⟨e, he, h2⟩ := List.mem_flatMap.mp hq
      obtain ⟨p, hp, rfl⟩ := List.mem_map.mp h2
      exact kn e he p hp]
    have key : ∀ l : List Ent, (∀ e ∈ l, e ∈ es) → ((incs l (getD c)).map fun q => q.2 * g q.1).sum = sumE l (fun x => getD c x * g x) - sumE l (getD c) := by
      intro l
      induction l with
      | nil => intro _; rfl
      | cons e l ih =>
        intro hl
        have he := hl e (List.mem_cons_self ..)
        have e1 : incs (e :: l) (getD c) = (e.parts.map fun p => (p, getD c e.name)) ++ incs l (getD c) := by
          unfold incs
          rw [List.flatMap_cons]
        rw [e1, List.map_append, List.sum_append, ih fun x hx => hl x (List.mem_cons_of_mem _ hx), sumE_cons, sumE_cons, List.map_map]
        have e2 : ((fun q : Str × Int => q.2 * g q.1) ∘ fun p => (p, getD c e.name)) = fun p => getD c e.name * g p := rfl
        rw [e2, sum_mul, n e he]
        by_cases q : e.parts = []
        · rw [hat e he q]
          omega
        · rw [if_neg q, Int.mul_add, Int.mul_one]
          omega
    exact key es fun _ h => h
  have h2 : sumE es (fun x => (pn es st c x - getD c x) * g x) = sumE es (fun x => getD st x * g x) + sumE es (fun x => amt (incs es (getD c)) x * g x) + sumE es (fun x => (0 - getD c x) * g x) := by
    rw [← sumE_add, ← sumE_add]
    refine sumE_congr fun e _ => ?_
    show (pn es st c e.name - getD c e.name) * g e.name = getD st e.name * g e.name + amt _ e.name * g e.name + (0 - getD c e.name) * g e.name
    rw [pn_at, ← Int.add_mul, ← Int.add_mul]
    congr 1
    omega
  have h3 : sumE es (fun x => (0 - getD c x) * g x) + sumE es (fun x => getD c x * g x) = 0 := by
    rw [← sumE_add]
    exact sumE_zero fun e _ => by
      show (0 - getD c e.name) * g e.name + getD c e.name * g e.name = 0
      rw [← Int.add_mul]
      have : (0 - getD c e.name + getD c e.name) = 0 := by omega
      rw [this, Int.zero_mul]
  omega
end Sk
namespace Sk
open PySem PySem.Spec PyProof.Rows L2
abbrev s_total_splits : Stmt := topS 24
abbrev N_total_splits : List Str := ["catalogue", "stock"]
theorem sc_total_splits : FnScope N_total_splits ["catalogue", "stock"] (defScope s_total_splits) := ⟨rfl, rfl, rfl, by decide +kernel, rfl, by decide +kernel, by decide +kernel⟩
def sp_total_splits (Tb : List (Addr × Str)) (K : PySem.W.Frag) : Sp := fun vs H Q E => ∃ (a b : Addr) (xs : List V) (es : List Ent) (st : Num), vs = [.ref a, .ref b] ∧ SqL K H a xs ∧ CatAt H xs es ∧ H b = some (.dK (dS st)) ∧ LamX.Tabs Tb H ∧ Sized es ∧ (st.map (·.1)).Nodup ∧ st.length < 64 ∧ ErrCS Tb K H E es st ∧
  ∀ H' es', Valid es → StockOk es st → es'.Perm es → Ordered es' → Gr Tb H H' → Q (.int ((fs es' (getD st)).map (·.2)).sum) H'

section
variable {P : Program} {w : World} {K : PySem.W.Frag} {mg : Str → Option Value} {base : Heap} {Tb : List (Addr × Str)}
theorem ok_total_splits {f : Addr} {fd : FuncData} (F : FnP K "total_splits" s_total_splits f fd) (T : Tx K mg) (GX_check_catalogue : FnX P w K mg base "check_catalogue" 3 ["catalogue"] (sp_check_catalogue Tb K)) (GX_check_stock : FnX P w K mg base "check_stock" 3 ["catalogue", "stock"] (sp_check_stock Tb K)) (G_full_splits : Fn P w K mg base "full_splits" 1 ["entries", "stock"] (sp_full_splits Tb K)) (G_ordered : Fn P w K mg base "ordered" 4 ["catalogue"] (sp_ordered Tb K)) : FnOk P w K mg base (L2N.CX P w) 5 f fd ["catalogue", "stock"] (sp_total_splits Tb K) := by
  refine F.ok (CX := L2N.CX P w) sc_total_splits (fun vs H Q E h => ?_) (fun cdv A outer s H vs Q E hr h => ?_)
  · obtain ⟨_, _, _, _, _, rfl, _⟩ := h
    rfl
  · obtain ⟨a, b, xs, es, st, rfl, ha, hc, hb, ht, hz, nd, few, ⟨kc, ks⟩, k⟩ := h
    refine ⟨_, (pss_cons (ps_expr (pe_fnX GX_check_catalogue (hr.mono (by decide)) (L2N.takes_of rfl rfl rfl rfl) (pa_cons (pv 0) pa_nil)))
      (pss_cons (ps_expr (pe_fnX GX_check_stock (hr.mono (by decide)) (L2N.takes_of rfl rfl rfl rfl) (pa_cons (pv 0) (pa_cons (pv 1) pa_nil))))
      (pss_one (ps_ret (pe_sumVals rfl (by rfl) T.n_sum (pe_fn G_full_splits (hr.mono (by decide)) (pa_cons (pe_fn G_ordered (hr.mono (by decide)) (pa_cons (pv 0) pa_nil)) (pa_cons (pv 1) pa_nil)))))))), ?_⟩
    refine ⟨_, rfl, a, xs, es, rfl, ha, hc, hz.1, hz.2, fun hv H1 g1 => ?_, fun i dd H' hb g hdd => kc i dd H' hb g hdd⟩
    refine ⟨_, rfl, _, rfl, a, b, xs, es, st, rfl, g1.ext_seq ha, CatAt.gr g1 hc, g1.at hb .dK, nd, few, hv.few, fun so H2 g2 => ?_, fun x dd H' hx g hdd => ks x dd H' hv hx (g1.trans g) hdd⟩
    have g12 := g1.trans g2
    refine ⟨_, rfl, a, xs, es, rfl, g12.ext_seq ha, CatAt.gr g12 hc, g12.tab ht, hv.few, fun r H4 ys es' hp ho hc4 g4 hr => ?_⟩
    have g5 : Gr Tb H2 (upd H4 r (.lst ys)) := g4.trans (Gr.new hr)
    have hc5 : CatAt (upd H4 r (.lst ys)) ys es' := CatAt.gr g5 hc4
    have hv' := hv.perm hp
    have g15 := g12.trans g5
    refine ⟨_, rfl, r, b, ys, es', st, rfl, SqL.of upd_same, hc5, g15.at hb .dK, hv'.nodup, hv'.behind ho, hv'.few, fun N H6 g6 hN hN6 => ?_⟩
    refine ⟨N, _, (fs es' (getD st)).map (·.2), rfl, hN6, ?_, k H6 es' hv so hp ho (g15.trans g6)⟩
    unfold dS
    rw [List.map_map, List.map_map]
    rfl
end
end Sk
namespace Sk
open PySem PySem.Spec PyProof.Rows L2
abbrev s_law_source : Stmt := topS 26
abbrev N_law_source : List Str := ["script", "mix", "digits", "cell", "size"]
theorem sc_law_source : FnScope N_law_source ["script"] (defScope s_law_source) := ⟨rfl, rfl, rfl, by decide +kernel, rfl, by decide +kernel, by decide +kernel⟩
def sp_law_source (Tb : List (Addr × Str)) (K : PySem.W.Frag) : Sp := fun vs H Q _ => ∃ (a : Addr) (ns : List Int) (G : Hp), vs = [.ref a] ∧ SqL K H a (ns.map V.int) ∧ ns.length ≤ 63 ∧ Fz G H ∧ LamX.Tabs Tb H ∧ ∀ p H', Hs Tb p 0 [] G H' → Gr Tb H H' → Q (.ref p) H'
section
variable {P : Program} {w : World} {K : PySem.W.Frag} {mg : Str → Option Value} {base : Heap} {Tb : List (Addr × Str)}
theorem ok_law_source {f : Addr} {fd : FuncData} (F : FnP K "_law_source" s_law_source f fd) (T : Tx K mg) : FnOk P w K mg base CX0 1 f fd ["script"] (sp_law_source Tb K) := by
  refine F.ok sc_law_source (fun vs H Q E h => ?_) (fun cdv A outer s H vs Q E hr h => ?_)
  · obtain ⟨_, _, _, rfl, _⟩ := h
    rfl
  · obtain ⟨a, ns, G, rfl, ha, hz, fz, ht, k⟩ := h
    refine ⟨_, PSs.nox (pss_cons (ps_set (i := 1) sc_law_source.nd rfl (Or.inl rfl) pe_int)
      (pss_cons (ps_set (i := 2) sc_law_source.nd rfl (Or.inl rfl) (pe_lst pa_nil))
      (pss_cons (ps_for PassesOwn.never rfl (piL (K := K) rfl (pv 0)) (pg_name (i := 3) sc_law_source.nd rfl (Or.inl rfl)) (pss_cons (ps_set (i := 1) sc_law_source.nd rfl (Or.inl rfl) (pe_op op_mod (pe_op op_add (pe_op op_mul (pv 1) pe_int) (pv 3)) (pe_op op_sub (pe_op op_pow pe_int pe_int) pe_int)))
        (pss_cons (ps_set (i := 4) sc_law_source.nd rfl (Or.inl rfl) (pe_callB (call_max2 rfl) (by rfl) T.n_max (by decide +kernel) (pa_cons (pv 3) (pa_cons (pe_op op_sub pe_int (pv 3)) pa_nil))))
        (pss_one (ps_if (pt_cmpR op_ge (pv 4) (pe_op op_pow pe_int pe_int) (nomark _)) (pss_one (ps_expr (peBm (K := K) rfl PySem.F.plainAttrs_list PySem.F.slot_list_append PySem.F.type_list_append mt_append (pv 2) (pa_cons (pe_op op_sub (pv 4) (pe_op op_pow pe_int pe_int)) pa_nil)))) pss_nil)))))
      (pss_one (ps_ret (pe_lst (pa_cons (pv 2) (pa_cons pe_int (pa_cons (pv 1) (pa_cons pe_int pa_nil)))))))))), ?_⟩
    have e61 : (2 : Int) ^ (Int.toNat 61) - 1 = 2305843009213693951 := by decide
    have e18 : (10 : Int) ^ (Int.toNat 18) = 1000000000000000000 := by decide
    refine ⟨Nat.zero_le _, fun q hq => ?_⟩
    have g0 : Gr Tb H (upd H q (.lst [])) := Gr.new hq
    refine ⟨_, rfl, a, rfl, ⟨_, g0.ext_seq ha⟩, for_list (K := K) (a := a) (xs := ns.map V.int) (fun i σ H' => ∃ (mix : Int) (ds : List Int) (s3 s4 : Option V), σ = [some (.ref a), some (.int mix), some (.ref q), s3, s4] ∧ Gr Tb H H' ∧ H' q = some (.lst (ds.map V.int)) ∧ 0 ≤ mix ∧ mix < 2305843009213693951 ∧ (∀ d ∈ ds, 0 ≤ d) ∧ ds.length ≤ i)
      ⟨271828182845904, [], none, none, rfl, g0, upd_same, by decide, by decide, (fun d hd => by simp at hd), Nat.le_refl _⟩ (fun i σ H' _ ⟨_, _, _, _, _, g, _⟩ => g.ext_seq ha) ?_ ?_⟩
    · rintro i x σ H' hx ⟨mix, ds, s3, s4, rfl, g, hd, m0, m1, d0, dl⟩
      have hi : i < ns.length := by
        have := (List.getElem?_eq_some_iff.mp hx).1
        rwa [List.length_map] at this
      rw [List.getElem?_map, List.getElem?_eq_getElem hi] at hx
      cases hx
      generalize ns[i] = c
      refine ⟨_, rfl, _, _, rfl, rfl, .inl ⟨by omega, by omega⟩, _, rfl, _, _, rfl, rfl, _, _, rfl, rfl, ⟨by decide, by decide, by decide⟩, _, _, rfl, rfl, _, _, rfl, rfl, by show (0 : Int) < _; rw [e61]; decide, ?_⟩
      have mb0 := Int.emod_nonneg (mix * 1000033 + c) (show (2305843009213693951 : Int) ≠ 0 by decide)
      have mb1 := Int.emod_lt_of_pos (mix * 1000033 + c) (show (0 : Int) < 2305843009213693951 by decide)
      refine ⟨_, rfl, _, rfl, _, _, rfl, rfl, _, _, rfl, ?_⟩
      refine ⟨_, rfl, _, _, rfl, rfl, ⟨by decide, by decide, by decide⟩, _, _, rfl, rfl, _, rfl, ?_⟩
      rw [e18]
      refine ite2 (fun c1 => ?_) (fun c1 => ?_)
      · have c2 := of_decide_eq_true c1
        refine ⟨_, rfl, .inl ⟨rfl, _, SqL.of hd⟩, _, rfl, _, _, rfl, rfl, ⟨by decide, by decide, by decide⟩, _, _, rfl, rfl, q, _, _, rfl, rfl, hd, ?_, ?_⟩
        · rw [List.length_map, sizeLine_eq]
          omega
        · rw [e18]
          refine ⟨(mix * 1000033 + c) % 2305843009213693951, ds ++ [(if 0 - c > c then 0 - c else c) - 1000000000000000000], _, _, rfl, g.mut (.of hq) hd .lst, ?_, mb0, mb1, fun d hd => ?_, ?_⟩
          · rw [upd_same, List.map_append]
            rfl
          · rcases List.mem_append.mp hd with z | z
            · exact d0 d z
            · rw [List.mem_singleton.mp z]
              omega
          · rw [List.length_append, List.length_singleton]
            omega
      · exact ⟨(mix * 1000033 + c) % 2305843009213693951, ds, _, _, rfl, g, hd, mb0, mb1, d0, by omega⟩
    · rintro σ H' ⟨mix, ds, s3, s4, rfl, g, hd, m0, m1, d0, dl⟩
      refine ⟨_, rfl, _, rfl, by show 4 ≤ sizeLine; decide, fun p hp => ?_⟩
      have gp : G p = none := (fz.gr g).free hp
      have gq : G q = none := fz.free hq
      have qp : q ≠ p := ne_of_none hd hp
      refine k p _ ⟨⟨q, ⟨ds, 0, mix, 0, upd_same, by rw [upd_ne qp]; exact hd, d0, by decide, m0, m1, by decide, by decide⟩, gq, qp, fun x hx => by simp at hx⟩, fz.gr (g.trans (Gr.new hp)), gp, fun x hx => by simp at hx, List.nodup_nil, (g.trans (Gr.new hp)).tab ht⟩ (g.trans (Gr.new hp))
end
end Sk
namespace Sk
open PySem PySem.Spec PyProof.Rows L2
abbrev s_law_draw : Stmt := topS 27
abbrev N_law_draw : List Str := ["source", "many", "mixed", "drawn"]
theorem sc_law_draw : FnScope N_law_draw ["source", "many"] (defScope s_law_draw) := ⟨rfl, rfl, rfl, by decide +kernel, rfl, by decide +kernel, by decide +kernel⟩
def sp_law_draw (Tb : List (Addr × Str)) (K : PySem.W.Frag) : Sp := fun vs H Q _ => ∃ (p : Addr) (n : Nat) (L : List (Addr × HO)) (G : Hp) (many : Int), vs = [.ref p, .int many] ∧ Hs Tb p n L G H ∧ n < 1000000000 ∧ 1 ≤ many ∧ many < 2 ^ 200 ∧ ∀ r H', 0 ≤ r → r < many → Hs Tb p (n + 1) L G H' → Q (.int r) H'
/-- the source is written: its own list, its digits -/
theorem Hs.src_put {Tb : List (Addr × Str)} {p q : Addr} {n m : Nat} {L : List (Addr × HO)} {G H H' : Hp} (s : Hs Tb p n L G H) (hq : G q = none) (hqp : q ≠ p) (hL : ∀ x ∈ L, x.1 ≠ q)
    (hp : ∃ xs, H p = some (.lst xs)) (hq2 : ∃ xs, H q = some (.lst xs)) (e : ∀ b, b ≠ p → b ≠ q → H' b = H b) (sr : SrcAt p q m H') : Hs Tb p m L G H' := by
  obtain ⟨xs, hp⟩ := hp
  obtain ⟨ys, hq2⟩ := hq2
  have ot : ∀ b o, H b = some o → (∀ zs, o ≠ .lst zs) → H' b = some o := fun b o h no => by
    rw [e b (fun z => by rw [z, hp] at h; cases h; exact no _ rfl) (fun z => by rw [z, hq2] at h; cases h; exact no _ rfl)]
    exact h
  refine ⟨⟨q, sr, hq, hqp, hL⟩, ⟨fun b o h => ?_, s.fz.nt⟩, s.gp, fun x hx => ?_, s.nod, fun t ht => ?_⟩
  · rw [e b (fun z => by rw [z, s.gp] at h; cases h) (fun z => by rw [z, hq] at h; cases h)]
    exact s.fz.sub b o h
  · obtain ⟨c1, c2⟩ := s.cel x hx
    refine ⟨?_, c2⟩
    rw [e x.1 c2.2.1 (hL x hx)]
    exact c1
  · obtain ⟨ps, b1, b2, b3⟩ := s.tab t ht
    refine ⟨ps, ot _ _ b1 (fun _ z => by cases z), b2, fun po cv hc => ?_⟩
    obtain ⟨c', e1, e2⟩ := b3 po cv hc
    exact ⟨c', e1, ot _ _ e2 (fun _ z => by unfold LamX.CodeO at z; cases z)⟩
section
variable {P : Program} {w : World} {K : PySem.W.Frag} {mg : Str → Option Value} {base : Heap} {Tb : List (Addr × Str)}
theorem ok_law_draw {f : Addr} {fd : FuncData} (F : FnP K "_law_draw" s_law_draw f fd) (T : Tx K mg) : FnOk P w K mg base CX0 1 f fd ["source", "many"] (sp_law_draw Tb K) := by
  refine F.ok sc_law_draw (fun vs H Q E h => ?_) (fun cdv A outer s H vs Q E hr h => ?_)
  · obtain ⟨_, _, _, _, _, rfl, _⟩ := h
    rfl
  · obtain ⟨p, n, L, G, many, rfl, hs, hn, hm1, hm2, k⟩ := h
    refine ⟨_, PSs.nox (pss_cons (ps_while PassesOwn.never (PW.pt (pw_and (pt_cmpR op_lt (pe_ix (ixL (K := K) rfl) (pv 0) pe_int (fun _ _ => rfl)) pe_int (nomark _)) (pw_and1 (pt_cmpR (opNeNil (K := K) rfl hr.units) (pe_ix (ixL (K := K) rfl) (pv 0) pe_int (fun _ _ => rfl)) (pe_lst pa_nil) (nomark _))))) (pss_one (ps_asg (peBm (K := K) rfl PySem.F.plainAttrs_list PySem.F.slot_list_pop PySem.F.type_list_pop mt_popAt (pe_ix (ixL (K := K) rfl) (pv 0) pe_int (fun _ _ => rfl)) (pa_cons pe_int pa_nil)) (pg_sub (pv 0) pe_int set_list))))
      (pss_cons (ps_if (pt_cmpR op_ge (pe_ix (ixL (K := K) rfl) (pv 0) pe_int (fun _ _ => rfl)) pe_int (nomark _)) (pss_cons (ps_set (i := 3) sc_law_draw.nd rfl (Or.inl rfl) (pe_op op_mod (pe_ix (ixL (K := K) rfl) (pv 0) pe_int (fun _ _ => rfl)) (pv 1)))
        (pss_cons (ps_asg (pe_op op_fdivW (pe_ix (ixL (K := K) rfl) (pv 0) pe_int (fun _ _ => rfl)) (pv 1)) (pg_sub (pv 0) pe_int set_list))
        (pss_one (ps_ret (pv 3))))) pss_nil)
      (pss_cons (ps_asg (pe_op op_add (pe_ix (ixL (K := K) rfl) (pv 0) pe_int (fun _ _ => rfl)) pe_int) (pg_sub (pv 0) pe_int set_list))
      (pss_cons (ps_set (i := 2) sc_law_draw.nd rfl (Or.inl rfl) (pe_op op_mul (pe_op op_add (pe_ix (ixL (K := K) rfl) (pv 0) pe_int (fun _ _ => rfl)) pe_int) (pe_op op_pow (pe_op op_add (pe_ix (ixL (K := K) rfl) (pv 0) pe_int (fun _ _ => rfl)) pe_int) pe_int)))
      (pss_cons (ps_set (i := 2) sc_law_draw.nd rfl (Or.inl rfl) (pe_op op_mod (pe_op op_add (pv 2) (pe_op op_mul pe_int (pe_ix (ixL (K := K) rfl) (pv 0) pe_int (fun _ _ => rfl)))) (pe_op op_sub (pe_op op_pow pe_int pe_int) pe_int)))
      (pss_one (ps_ret (pe_op op_mod (pe_op op_fdivW (pe_op op_mod (pe_op op_pow (pv 2) pe_int) (pe_op op_add (pe_op op_pow pe_int pe_int) pe_int)) pe_int) (pv 1))))))))), ?_⟩
    -- the digits left over are m
    let J : Nat → L2.St → Hp → Prop := fun m σ H' => σ = L2.start N_law_draw [V.ref p, V.int many] ∧ Hs Tb p n L G H' ∧ ∃ q ds rest, H' p = some (.lst (.ref q :: rest)) ∧ H' q = some (.lst (List.map V.int ds)) ∧ ds.length = m
    obtain ⟨m0, j0⟩ : ∃ m, J m (L2.start N_law_draw [V.ref p, V.int many]) H := by
      obtain ⟨⟨q, ⟨ds, x, m, c, h1, h2, _⟩, _⟩, _⟩ := id hs
      exact ⟨ds.length, rfl, hs, q, ds, _, h1, h2, rfl⟩
    refine while_cps J (fun m σ H' => J m σ H' ∧ 0 < m) J m0 j0 ?test ?body ?done
    case test =>
      rintro m σ H1 ⟨rfl, hs1, q, ds, rest, hp1, hq1, hl⟩ R hT hF
      obtain ⟨⟨q', ⟨ds', x, mm, c, h1, h2, h3, h4, h5, h6, h7, h8⟩, gq, qp, Lq⟩, _⟩ := id hs1
      rw [hp1] at h1
      cases h1
      refine ⟨_, rfl, p, _, _, _, rfl, rfl, SqL.of hp1, atI_nat (j := 1) rfl, _, _, rfl, rfl, _, rfl, ?_⟩
      refine ite2 (fun c1 => ?_) (fun c1 => hF H1 ⟨rfl, hs1, q, ds, _, hp1, hq1, hl⟩)
      refine ⟨_, rfl, p, _, _, _, rfl, rfl, SqL.of hp1, atI_nat (j := 0) rfl, rd_nil (SqL.of hq1) fun b hb => ⟨_, rfl, ?_⟩⟩
      have j2 : J m (L2.start N_law_draw [V.ref p, V.int many]) (upd H1 b (.lst [])) :=
        ⟨rfl, hs1.gr (Gr.new hb), q, ds, _, by rw [upd_ne (ne_of_none hp1 hb)]; exact hp1, by rw [upd_ne (ne_of_none hq1 hb)]; exact hq1, hl⟩
      cases ds with
      | nil => exact hF _ j2
      | cons d ds => exact hT _ ⟨j2, by rw [← hl, List.length_cons]; omega⟩
    case body =>
      rintro m σ H1 ⟨⟨rfl, hs1, q, ds, rest, hp1, hq1, hl⟩, hm⟩
      obtain ⟨⟨q', ⟨ds', x, mm, c, h1, h2, h3, h4, h5, h6, h7, h8⟩, gq, qp, Lq⟩, _⟩ := id hs1
      rw [hp1] at h1
      cases h1
      have eds : ds = ds' := by
        rw [hq1] at h2
        have e := congrArg (fun o : Option HO => match o with | some (.lst xs) => xs.map (fun v => match v with | V.int i => i | _ => 0) | _ => []) h2
        simpa [Function.comp_def] using e
      subst eds
      cases ds with
      | nil => rw [List.length_nil] at hl; omega
      | cons d ds =>
        refine ⟨_, rfl, p, _, _, _, rfl, rfl, SqL.of hp1, atI_nat (j := 0) rfl, .inl ⟨rfl, _, SqL.of hq1⟩, q, _, 0, 0, _, rfl, rfl, hq1, by decide, by decide, ?_, rfl, _, rfl, p, [.ref q, .int x, .int mm, .int c], 1, 1, rfl, rfl, ?_, rfl, ?_⟩
        · simp [seqIndex?]
        · rw [upd_ne (Ne.symm qp)]
          exact hp1
        · have pq := Ne.symm qp
          refine ⟨ds.length, by rw [← hl, List.length_cons]; omega, rfl, hs1.src_put gq qp Lq ⟨_, hp1⟩ ⟨_, hq1⟩ (fun b h1 h2 => by rw [upd_ne h1, upd_ne h2]) ⟨ds, d, mm, c, upd_same, by rw [upd_ne qp, upd_same]; rfl, fun z hz => h3 z (List.mem_cons_of_mem _ hz), h3 d (List.mem_cons_self ..), h5, h6, h7, h8⟩, q, ds, _, upd_same, by rw [upd_ne qp, upd_same]; rfl, rfl⟩
    case done =>
      rintro m σ H1 ⟨rfl, hs1, q, ds, rest, hp1, hq1, hl⟩
      obtain ⟨⟨q', ⟨ds', x, mm, c, h1, h2, h3, h4, h5, h6, h7, h8⟩, gq, qp, Lq⟩, _⟩ := id hs1
      rw [hp1] at h1
      cases h1
      have pq := Ne.symm qp
      refine ⟨_, rfl, p, _, _, _, rfl, rfl, SqL.of hp1, atI_nat (j := 1) rfl, _, _, rfl, rfl, _, rfl, ?_⟩
      refine ite2 (fun c1 => ?_) (fun c1 => ?_)
      · refine ⟨_, rfl, p, _, _, _, rfl, rfl, SqL.of hp1, atI_nat (j := 1) rfl, _, rfl, _, _, rfl, rfl, by omega, ?_⟩
        refine ⟨_, rfl, p, _, _, _, rfl, rfl, SqL.of hp1, atI_nat (j := 1) rfl, _, rfl, _, _, rfl, rfl, wide_div (b := 200) (by omega) (by omega) (by decide) (by decide), _, rfl, p, [.ref q, .int x, .int mm, .int c], 1, 1, rfl, rfl, hp1, rfl, _, rfl, ?_⟩
        refine k _ _ (Int.emod_nonneg _ (by omega)) (Int.emod_lt_of_pos _ (by omega)) ?_
        exact hs1.src_put gq qp Lq ⟨_, hp1⟩ ⟨_, h2⟩ (fun b h1 h2 => by rw [upd_ne h1]) ⟨ds', x / many, mm, c, upd_same, by rw [upd_ne qp]; exact h2, h3, Int.ediv_nonneg h4 (by omega), h5, h6, h7, by omega⟩
      · refine ⟨_, rfl, p, _, _, _, rfl, rfl, SqL.of hp1, atI_nat (j := 3) rfl, _, _, rfl, rfl, _, rfl, p, [.ref q, .int x, .int mm, .int c], 3, 3, rfl, rfl, hp1, rfl, ?_⟩
        have e61 : (2 : Int) ^ (Int.toNat 61) - 1 = 2305843009213693951 := by decide
        have e18 : (10 : Int) ^ (Int.toNat 18) + 9 = 1000000000000000009 := by decide
        have hb : ∀ z : Int, (z % ((2 : Int) ^ (Int.toNat 61) - 1)).natAbs < 2 ^ 64 := fun z => by
          rw [e61]
          have h1 := Int.emod_nonneg z (show (2305843009213693951 : Int) ≠ 0 by decide)
          have h2 := Int.emod_lt_of_pos z (show (0 : Int) < 2305843009213693951 by decide)
          omega
        refine ⟨_, rfl, p, _, _, _, rfl, rfl, SqL.of upd_same, atI_nat (j := 2) rfl, _, _, rfl, rfl, _, rfl, p, _, _, _, rfl, rfl, SqL.of upd_same, atI_nat (j := 3) rfl, _, _, rfl, rfl, _, _, rfl, rfl, ⟨by decide, by decide, by omega⟩, _, _, rfl, rfl, .inl ⟨by omega, by omega⟩, ?_⟩
        refine ⟨_, rfl, _, rfl, p, _, _, _, rfl, rfl, SqL.of upd_same, atI_nat (j := 3) rfl, _, _, rfl, rfl, .inl ⟨by decide, by decide⟩, _, _, rfl, rfl, _, _, rfl, rfl, ⟨by decide, by decide, by decide⟩, _, _, rfl, rfl, _, _, rfl, rfl, by show (0 : Int) < _; rw [e61]; decide, ?_⟩
        refine ⟨_, rfl, _, _, rfl, rfl, ⟨by decide, by decide, hb _⟩, _, _, rfl, rfl, ⟨by decide, by decide, by decide⟩, _, _, rfl, rfl, _, _, rfl, rfl, by show (0 : Int) < _; rw [e18]; decide, _, _, rfl, rfl, wide_div (b := 200) (by decide) (by decide) (by decide) (by decide), _, rfl, _, _, rfl, rfl, by omega, ?_⟩
        refine k _ _ (Int.emod_nonneg _ (by omega)) (Int.emod_lt_of_pos _ (by omega)) ?_
        exact hs1.src_put gq qp Lq ⟨_, hp1⟩ ⟨_, h2⟩ (fun b h1 h2 => by rw [upd_ne h1]) ⟨ds', x, mm, c + 1, upd_same, by rw [upd_ne qp]; exact h2, h3, h4, h5, h6, by omega, by omega⟩
end
end Sk
namespace Sk
open PySem PySem.Spec PyProof.Rows L2
abbrev s_law_same : Stmt := topS 28
abbrev N_law_same : List Str := ["found", "wanted", "k"]
theorem sc_law_same : FnScope N_law_same ["found", "wanted"] (defScope s_law_same) := ⟨rfl, rfl, rfl, by decide +kernel, rfl, by decide +kernel, by decide +kernel⟩
/-- values of the same data, of depth below n -/
def sp_same (Tb : List (Addr × Str)) (K : PySem.W.Frag) (n : Nat) : Sp := fun vs H Q _ => ∃ (x y : V) (d : PyData), vs = [x, y] ∧ Dp K H x d ∧ Dp K H y d ∧ d.depth < n ∧ cnt d ≤ 16000000 ∧ ∀ H', Gr Tb H H' → Q (.bl true) H'
abbrev sp_law_same (Tb : List (Addr × Str)) (K : PySem.W.Frag) : Sp := sp_same Tb K 5
section
variable {P : Program} {w : World} {K : PySem.W.Frag} {mg : Str → Option Value} {base : Heap} {Tb : List (Addr × Str)}
/-- lists or tuples: the last return -/
theorem same_items {Tb : List (Addr × Str)} {K : PySem.W.Frag} {n : Nat} {x y : Addr} {xs ys : List V} {ds : List PyData} {H : Hp} {Q : VK} (hx : SqL K H x xs ∨ SqT K H x xs) (hy : SqL K H y ys ∨ SqT K H y ys) (ax : DpAll K H xs ds) (ay : DpAll K H ys ds) (hz : cntAll ds < 16000000) (hd : PyData.depthAll ds < n)
    (k : ∀ H', Gr Tb H H' → Q (.bl true) H') :
    tOp (rNil K false) (tLc (iRng1 (tCons (tCB (rLenL K) (tCons (tVar 1) tNil)) tNil)) (gName 2)
      (tNot (tB (tCall (sp_same Tb K n) [] E0 (tCons (tOp (rIxA K) (tVar 0) (tVar 2)) (tCons (tOp (rIxA K) (tVar 1) (tVar 2)) tNil))))) (tVar 2) [2]) (tLst tNil) (L2.start N_law_same [.ref x, .ref y]) H Q := by
  have lx := DpAll.len ax
  have ly := DpAll.len ay
  have hcl := cnt_len ds
  refine ⟨_, rfl, y, ys, rfl, hy, (ys.length : Int), rfl, by omega, by omega, fun D hD => lc_range (lo := 0) (n := ys.length) (fun i H' => Gr Tb H H' ∧ H' D = some (.lst [])) ⟨Gr.new hD, upd_same⟩ ?_ ?_⟩
  · rintro i H' hi ⟨g, hd'⟩
    obtain ⟨d, hdi⟩ : ∃ d, ds[i]? = some d := ⟨_, List.getElem?_eq_getElem (by omega)⟩
    obtain ⟨u, hu, du⟩ := DpAll.at ax hdi
    obtain ⟨v, hv, dv⟩ := DpAll.at ay hdi
    have up : ∀ {a : Addr} {zs : List V}, SqL K H a zs ∨ SqT K H a zs → SqL K H' a zs ∨ SqT K H' a zs := fun h => h.imp g.ext_seq g.ext_tup
    have e0 : (0 : Int) + (i : Int) = (i : Int) := by omega
    refine ⟨rfl, _, rfl, _, rfl, x, xs, _, u, rfl, rfl, up hx, by rw [e0]; exact atI_nat hu, _, rfl, _, rfl, y, ys, _, v, rfl, rfl, up hy, by rw [e0]; exact atI_nat hv, u, v, d, rfl, Dp.gr g du, Dp.gr g dv, ?_, ?_, fun H2 g2 => ⟨true, rfl, ?_⟩⟩
    · have := depth_mem (List.mem_of_getElem? hdi)
      omega
    · have := cnt_mem (List.mem_of_getElem? hdi)
      omega
    · exact ⟨g.trans g2, g2.at hd' .lst⟩
  · rintro H' ⟨g, hd'⟩
    exact rd_nil (SqL.of hd') fun b hb => k _ (g.trans (Gr.new hb))
theorem ok_same {f : Addr} {fd : FuncData} (F : FnP K "_law_same" s_law_same f fd) (T : Tx K mg) (hm : mg "_law_same" = some (.ref f)) (hk : PySem.W.keepIn K (.ref f) = true) (hb : Binds K fd ["found", "wanted"] []) : ∀ n, FnOk P w K mg base CX0 n f fd ["found", "wanted"] (sp_same Tb K n)
  | 0 => ⟨fun _ _ _ _ ⟨_, _, _, _, _, _, z, _⟩ => by omega, fun _ _ _ _ _ _ _ _ _ _ _ _ _ ⟨_, _, _, _, _, _, z, _⟩ => by omega⟩
  | n + 1 => by
    have G_law_same : Fn P w K mg base "_law_same" n ["found", "wanted"] (sp_same Tb K n) := ⟨f, fd, ok_same F T hm hk hb n, hm, hk, hb⟩
    refine F.ok sc_law_same (fun vs H Q E h => ?_) (fun cdv A outer s H vs Q E hr h => ?_)
    · obtain ⟨_, _, _, rfl, _⟩ := h
      rfl
    · obtain ⟨x, y, d, rfl, hx, hy, hd, hz, k⟩ := h
      refine ⟨_, PSs.nox (pss_cons (ps_if (pt_cmpR op_isN (pv 1) pe_non (nomark _)) (pss_one (ps_ret (pe_cmpR op_isN (pv 0) pe_non (nomark _)))) pss_nil)
      (pss_cons (ps_if (pt_val (pe_callB (isiR (K := K) rfl) (by rfl) T.n_isinstance (by decide +kernel) (pa_cons (pv 1) (pa_cons (pe_bltn (v := V.ty "bool") (u := Value.type "bool") (by rfl) T.n_bool (by decide +kernel) (by exact rfl)) pa_nil)))) (pss_one (ps_ret (pe_and (pe_callB (isiR (K := K) rfl) (by rfl) T.n_isinstance (by decide +kernel) (pa_cons (pv 0) (pa_cons (pe_bltn (v := V.ty "bool") (u := Value.type "bool") (by rfl) T.n_bool (by decide +kernel) (by exact rfl)) pa_nil))) (pe_one (pe_cmpR op_eq (pv 0) (pv 1) (nomark _)))))) pss_nil)
      (pss_cons (ps_if (pt_val (pe_callB (isiR (K := K) rfl) (by rfl) T.n_isinstance (by decide +kernel) (pa_cons (pv 1) (pa_cons (pe_bltn (v := V.ty "int") (u := Value.type "int") (by rfl) T.n_int (by decide +kernel) (by exact rfl)) pa_nil)))) (pss_one (ps_ret (pe_and (pe_callB (isiR (K := K) rfl) (by rfl) T.n_isinstance (by decide +kernel) (pa_cons (pv 0) (pa_cons (pe_bltn (v := V.ty "int") (u := Value.type "int") (by rfl) T.n_int (by decide +kernel) (by exact rfl)) pa_nil))) (pe_and (pe_not (pe_callB (isiR (K := K) rfl) (by rfl) T.n_isinstance (by decide +kernel) (pa_cons (pv 0) (pa_cons (pe_bltn (v := V.ty "bool") (u := Value.type "bool") (by rfl) T.n_bool (by decide +kernel) (by exact rfl)) pa_nil)))) (pe_one (pe_cmpR op_eq (pv 0) (pv 1) (nomark _))))))) pss_nil)
      (pss_cons (ps_if (pt_val (pe_callB (isiR (K := K) rfl) (by rfl) T.n_isinstance (by decide +kernel) (pa_cons (pv 1) (pa_cons (pe_bltn (v := V.ty "str") (u := Value.type "str") (by rfl) T.n_str (by decide +kernel) (by exact rfl)) pa_nil)))) (pss_one (ps_ret (pe_and (pe_callB (isiR (K := K) rfl) (by rfl) T.n_isinstance (by decide +kernel) (pa_cons (pv 0) (pa_cons (pe_bltn (v := V.ty "str") (u := Value.type "str") (by rfl) T.n_str (by decide +kernel) (by exact rfl)) pa_nil))) (pe_one (pe_cmpR op_eq (pv 0) (pv 1) (nomark _)))))) pss_nil)
      (pss_cons (ps_if (pt_cmpR op_ne (pe_callB (isiR (K := K) rfl) (by rfl) T.n_isinstance (by decide +kernel) (pa_cons (pv 0) (pa_cons (pe_bltn (v := V.ty "list") (u := Value.type "list") (by rfl) T.n_list (by decide +kernel) (by exact rfl)) pa_nil))) (pe_callB (isiR (K := K) rfl) (by rfl) T.n_isinstance (by decide +kernel) (pa_cons (pv 1) (pa_cons (pe_bltn (v := V.ty "list") (u := Value.type "list") (by rfl) T.n_list (by decide +kernel) (by exact rfl)) pa_nil))) (nomark _)) (pss_one (ps_ret pe_bl)) pss_nil)
      (pss_cons (ps_if (PW.pt (pw_or (pt_cmpR op_ne (pe_callB (isiR (K := K) rfl) (by rfl) T.n_isinstance (by decide +kernel) (pa_cons (pv 0) (pa_cons (pe_bltn (v := V.ty "tuple") (u := Value.type "tuple") (by rfl) T.n_tuple (by decide +kernel) (by exact rfl)) pa_nil))) (pe_callB (isiR (K := K) rfl) (by rfl) T.n_isinstance (by decide +kernel) (pa_cons (pv 1) (pa_cons (pe_bltn (v := V.ty "tuple") (u := Value.type "tuple") (by rfl) T.n_tuple (by decide +kernel) (by exact rfl)) pa_nil))) (nomark _)) (pw_or1 (pt_cmpR op_ne (pe_callB (lenS (K := K) rfl) (by rfl) T.n_len (by decide +kernel) (pa_cons (pv 0) pa_nil)) (pe_callB (lenS (K := K) rfl) (by rfl) T.n_len (by decide +kernel) (pa_cons (pv 1) pa_nil)) (nomark _))))) (pss_one (ps_ret pe_bl)) pss_nil)
      (pss_one (ps_ret (pe_cmpR (opEqNil (K := K) rfl hr.units) (pe_lc (own := [("k", 2)]) (g := (gName 2)) (tt := _) rfl sc_law_same.nd (pi_range1 (by rfl) T.n_range (pa_cons (pe_callB (lenS (K := K) rfl) (by rfl) T.n_len (by decide +kernel) (pa_cons (pv 1) pa_nil)) pa_nil)) (blkOk_by (N := N_law_same) (sc := (defScope s_law_same)) (by decide +kernel)) (fun _ _ _ _ _ => (pg_name (i := 2) sc_law_same.nd rfl (Or.inl rfl))) (fun _ _ _ _ _ => (pts_one (pt_not (pt_val (pe_fn G_law_same hr (pa_cons (pe_ix (ixA (K := K) rfl) (pv 0) (pv 2) (fun _ _ => rfl)) (pa_cons (pe_ix (ixA (K := K) rfl) (pv 1) (pv 2) (fun _ _ => rfl)) pa_nil))))))) (fun _ _ _ _ _ => (pv 2))) (pe_lst pa_nil) (nomark _)))))))))), ?_⟩
      have kH := k H (Gr.refl H)
      cases d with
      | none =>
        cases hx
        cases hy
        exact ⟨_, rfl, rfl, _, rfl, _, rfl, rfl, kH⟩
      | bool b =>
        cases hx
        cases hy
        refine ⟨_, rfl, rfl, _, rfl, ?_⟩
        refine ⟨_, rfl, _, _, _, _, _, rfl, .ty _, Dp.tyx (.bl b), kit_ty (r := true) rfl, _, rfl, ?_⟩
        refine ⟨_, rfl, _, _, _, _, _, rfl, .ty _, Dp.tyx (.bl b), kit_ty (r := true) rfl, _, rfl, ?_⟩
        refine ⟨_, rfl, _, rfl, rfl, ?_⟩
        rw [decide_eq_true rfl]
        exact kH
      | int i =>
        cases hx
        cases hy
        refine ⟨_, rfl, rfl, _, rfl, ?_⟩
        refine ⟨_, rfl, _, _, _, _, _, rfl, .ty _, Dp.tyx (.int i), kit_ty (r := false) rfl, _, rfl, ?_⟩
        refine ⟨_, rfl, _, _, _, _, _, rfl, .ty _, Dp.tyx (.int i), kit_ty (r := true) rfl, _, rfl, ?_⟩
        refine ⟨_, rfl, _, _, _, _, _, rfl, .ty _, Dp.tyx (.int i), kit_ty (r := true) rfl, _, rfl, ?_⟩
        refine ⟨_, rfl, _, _, _, _, _, rfl, .ty _, Dp.tyx (.int i), kit_ty (r := false) rfl, _, rfl, _, rfl, ?_⟩
        refine ⟨_, rfl, _, rfl, rfl, ?_⟩
        rw [decide_eq_true rfl]
        exact kH
      | str z =>
        cases hx
        cases hy
        refine ⟨_, rfl, rfl, _, rfl, ?_⟩
        refine ⟨_, rfl, _, _, _, _, _, rfl, .ty _, Dp.tyx (.str z), kit_ty (r := false) rfl, _, rfl, ?_⟩
        refine ⟨_, rfl, _, _, _, _, _, rfl, .ty _, Dp.tyx (.str z), kit_ty (r := false) rfl, _, rfl, ?_⟩
        refine ⟨_, rfl, _, _, _, _, _, rfl, .ty _, Dp.tyx (.str z), kit_ty (r := true) rfl, _, rfl, ?_⟩
        refine ⟨_, rfl, _, _, _, _, _, rfl, .ty _, Dp.tyx (.str z), kit_ty (r := true) rfl, _, rfl, ?_⟩
        refine ⟨_, rfl, _, rfl, rfl, ?_⟩
        rw [decide_eq_true rfl]
        exact kH
      | list ds =>
        have hx0 := hx
        have hy0 := hy
        cases hx with
        | lst sx ax =>
        cases hy with
        | lst sy ay =>
        refine ⟨_, rfl, rfl, _, rfl, ?_⟩
        refine ⟨_, rfl, _, _, _, _, _, rfl, .ty _, Dp.tyx hy0, kit_ty (r := false) rfl, _, rfl, ?_⟩
        refine ⟨_, rfl, _, _, _, _, _, rfl, .ty _, Dp.tyx hy0, kit_ty (r := false) rfl, _, rfl, ?_⟩
        refine ⟨_, rfl, _, _, _, _, _, rfl, .ty _, Dp.tyx hy0, kit_ty (r := false) rfl, _, rfl, ?_⟩
        refine ⟨_, rfl, _, _, _, _, _, rfl, .ty _, Dp.tyx hx0, kit_ty (r := true) rfl, _, rfl, _, _, _, _, _, rfl, .ty _, Dp.tyx hy0, kit_ty (r := true) rfl, rfl, _, rfl, ?_⟩
        refine ⟨_, rfl, _, _, _, _, _, rfl, .ty _, Dp.tyx hx0, kit_ty (r := false) rfl, _, rfl, _, _, _, _, _, rfl, .ty _, Dp.tyx hy0, kit_ty (r := false) rfl, rfl, _, rfl, ?_⟩
        refine ⟨_, rfl, _, _, rfl, .inl sx, _, rfl, _, _, rfl, .inl sy, rfl, _, rfl, ?_⟩
        rw [DpAll.len ax, DpAll.len ay, decide_eq_true rfl]
        rw [PyData.depth] at hd
        rw [cnt] at hz
        exact iteF (same_items (.inl sx) (.inl sy) ax ay (by omega) (by omega) k)
      | tuple ds =>
        have hx0 := hx
        have hy0 := hy
        cases hx with
        | tup sx ax =>
        cases hy with
        | tup sy ay =>
        refine ⟨_, rfl, rfl, _, rfl, ?_⟩
        refine ⟨_, rfl, _, _, _, _, _, rfl, .ty _, Dp.tyx hy0, kit_ty (r := false) rfl, _, rfl, ?_⟩
        refine ⟨_, rfl, _, _, _, _, _, rfl, .ty _, Dp.tyx hy0, kit_ty (r := false) rfl, _, rfl, ?_⟩
        refine ⟨_, rfl, _, _, _, _, _, rfl, .ty _, Dp.tyx hy0, kit_ty (r := false) rfl, _, rfl, ?_⟩
        refine ⟨_, rfl, _, _, _, _, _, rfl, .ty _, Dp.tyx hx0, kit_ty (r := false) rfl, _, rfl, _, _, _, _, _, rfl, .ty _, Dp.tyx hy0, kit_ty (r := false) rfl, rfl, _, rfl, ?_⟩
        refine ⟨_, rfl, _, _, _, _, _, rfl, .ty _, Dp.tyx hx0, kit_ty (r := true) rfl, _, rfl, _, _, _, _, _, rfl, .ty _, Dp.tyx hy0, kit_ty (r := true) rfl, rfl, _, rfl, ?_⟩
        refine ⟨_, rfl, _, _, rfl, .inr sx, _, rfl, _, _, rfl, .inr sy, rfl, _, rfl, ?_⟩
        rw [DpAll.len ax, DpAll.len ay, decide_eq_true rfl]
        rw [PyData.depth] at hd
        rw [cnt] at hz
        exact iteF (same_items (.inr sx) (.inr sy) ax ay (by omega) (by omega) k)
      | dict _ => cases hx
end
end Sk
namespace Sk
open PySem PySem.Spec PyProof.Rows L2
abbrev s_law_shuffled : Stmt := topS 29
abbrev N_law_shuffled : List Str := ["source", "items", "left", "k"]
theorem sc_law_shuffled : FnScope N_law_shuffled ["source", "items"] (defScope s_law_shuffled) := ⟨rfl, rfl, rfl, by decide +kernel, rfl, by decide +kernel, by decide +kernel⟩
def sp_law_shuffled (Tb : List (Addr × Str)) (K : PySem.W.Frag) : Sp := fun vs H Q _ => ∃ (p a : Addr) (n : Nat) (L : List (Addr × HO)) (G : Hp) (xs : List V), vs = [.ref p, .ref a] ∧ Hs Tb p n L G H ∧ SqL K H a xs ∧ xs.length ≤ 100000 ∧ n + xs.length < 1000000000 ∧
  ∀ r H' ys, ys.Perm xs → Hs Tb p (n + xs.length) ((r, .lst ys) :: L) G H' → Q (.ref r) H'
section
variable {P : Program} {w : World} {K : PySem.W.Frag} {mg : Str → Option Value} {base : Heap} {Tb : List (Addr × Str)}
theorem ok_law_shuffled {f : Addr} {fd : FuncData} (F : FnP K "_law_shuffled" s_law_shuffled f fd) (T : Tx K mg) (G_law_draw : Fn P w K mg base "_law_draw" 1 ["source", "many"] (sp_law_draw Tb K)) : FnOk P w K mg base CX0 2 f fd ["source", "items"] (sp_law_shuffled Tb K) := by
  refine F.ok sc_law_shuffled (fun vs H Q E h => ?_) (fun cdv A outer s H vs Q E hr h => ?_)
  · obtain ⟨_, _, _, _, _, _, rfl, _⟩ := h
    rfl
  · obtain ⟨p, a, n, L, G, xs, rfl, hs, ha, hz, hn, k⟩ := h
    refine ⟨_, PSs.nox (pss_cons (ps_set (i := 2) sc_law_shuffled.nd rfl (Or.inr rfl) (pe_callTy (listOf (K := K) rfl) (by rfl) T.n_list (by decide +kernel) (pa_cons (pv 1) pa_nil)))
      (pss_one (ps_ret (pe_lc (own := [("k", 3)]) (g := (gName 3)) (tt := tYes) rfl sc_law_shuffled.nd (pi_range1 (by rfl) T.n_range (pa_cons (pe_callB (lenS (K := K) rfl) (by rfl) T.n_len (by decide +kernel) (pa_cons (pv 2) pa_nil)) pa_nil)) (blkOk_by (N := N_law_shuffled) (sc := (defScope s_law_shuffled)) (by decide +kernel)) (fun _ _ _ _ _ => (pg_name (i := 3) sc_law_shuffled.nd rfl (Or.inl rfl))) (fun _ _ _ _ _ => pts_nil) (fun _ _ _ _ _ => (peBm (K := K) rfl PySem.F.plainAttrs_list PySem.F.slot_list_pop PySem.F.type_list_pop mt_popAt (pv 2) (pa_cons (pe_fn G_law_draw (hr.mono (by decide)) (pa_cons (pv 0) (pa_cons (pe_callB (lenS (K := K) rfl) (by rfl) T.n_len (by decide +kernel) (pa_cons (pv 2) pa_nil)) pa_nil))) pa_nil))))))), ?_⟩
    refine ⟨_, rfl, a, xs, rfl, .inl ha, fun l hl => ?_⟩
    have hs1 := hs.new hl (.lst (xs := xs))
    refine ⟨_, rfl, l, xs, rfl, .inl (SqL.of upd_same), (xs.length : Int), rfl, by omega, by omega, fun D hD => lc_range (lo := 0) (n := xs.length) (fun i H' => ∃ acc rest : List V, (acc ++ rest).Perm xs ∧ acc.length = i ∧ Hs Tb p (n + i) ((D, .lst acc) :: (l, .lst rest) :: L) G H') ⟨[], xs, .refl _, rfl, hs1.new hD .lst⟩ ?_ ?_⟩
    · rintro i H' hi ⟨acc, rest, hp, hl', h2⟩
      have hlen := hp.length_eq
      rw [List.length_append] at hlen
      refine ⟨rfl, _, rfl, .inl ⟨rfl, _, SqL.of (h2.get (i := 1) rfl)⟩, _, rfl, _, rfl, l, rest, rfl, .inl (SqL.of (h2.get (i := 1) rfl)), p, n + i, _, G, (rest.length : Int), rfl, h2, by omega, by omega, by show (rest.length : Int) < 2 ^ 200; omega, fun r H4 r0 r1 h4 => ?_⟩
      obtain ⟨y, hy⟩ : ∃ y, rest[r.toNat]? = some y := ⟨_, List.getElem?_eq_getElem (by omega)⟩
      have h5 := h4.put (i := 1) (o' := .lst (rest.eraseIdx r.toNat)) rfl .lst
      have h6 := h5.put (i := 0) (o' := .lst (acc ++ [y])) rfl .lst
      refine ⟨l, rest, r, r.toNat, y, rfl, rfl, h4.get (i := 1) rfl, by omega, by omega, ?_, hy, acc, h5.get (i := 0) rfl, ?_, acc ++ [y], rest.eraseIdx r.toNat, ?_, ?_, h6⟩
      · exact seq_ix r0 r1
      · rw [sizeLine_eq]
        omega
      · refine List.Perm.trans ?_ hp
        rw [List.append_assoc]
        refine List.Perm.append_left acc ?_
        exact erase_perm rest r.toNat y hy
      · rw [List.length_append, List.length_singleton, hl']
    · rintro H' ⟨acc, rest, hp, hl', h2⟩
      have hlen := hp.length_eq
      rw [List.length_append] at hlen
      have hr : rest = [] := List.length_eq_zero_iff.mp (by omega)
      rw [hr, List.append_nil] at hp
      exact k D H' acc hp (h2.sub (.cons₂ _ (.cons _ (.refl _))))
end
end Sk
namespace Sk
open PySem PySem.Spec PyProof.Rows L2
abbrev s_law_names : Stmt := topS 30
abbrev N_law_names : List Str := ["source", "pool", "letter"]
theorem sc_law_names : FnScope N_law_names ["source"] (defScope s_law_names) := ⟨rfl, rfl, rfl, by decide +kernel, rfl, by decide +kernel, by decide +kernel⟩
def sp_law_names (Tb : List (Addr × Str)) (K : PySem.W.Frag) : Sp := fun vs H Q _ => ∃ (p : Addr) (n : Nat) (L : List (Addr × HO)) (G : Hp), vs = [.ref p] ∧ Hs Tb p n L G H ∧ n + 40 < 1000000000 ∧
  ∀ r H' (ns : List Str), ns.Nodup → ns.length = 40 → (∀ x ∈ ns, nameB x = true) → Str.ofString "nobody" ∉ ns → Hs Tb p (n + 40) ((r, .lst (ns.map V.str)) :: L) G H' → Q (.ref r) H'
def namesAt (i : Nat) : List Str := (["a", "aa", "aaa", "ab", "b", "ba", "z", "zz", "split", "undo", "abcdefgh", "abcdefgi", "zzzzzzzz", "zzzzzzzy"] : List Str) ++ (("cdefghijklmno" : Str).cps.toList.take i).flatMap fun c => [⟨#[c]⟩, (⟨#[c]⟩ : Str) ++ ("x" : Str)]
theorem names_nodup : (namesAt 13).Nodup := by decide +kernel
theorem names_good : ∀ x ∈ namesAt 13, nameB x = true := by decide +kernel
theorem names_nobody : Str.ofString "nobody" ∉ namesAt 13 := by decide +kernel
theorem names_len : (namesAt 13).length = 40 := by decide +kernel
theorem namesAt_len : ∀ i, (namesAt i).length ≤ 14 + 2 * i := by
  intro i
  unfold namesAt
  rw [List.length_append]
  have : ∀ l : List Nat, (l.flatMap fun c => [(⟨#[c]⟩ : Str), (⟨#[c]⟩ : Str) ++ ("x" : Str)]).length = 2 * l.length := by
    intro l
    induction l with
    | nil => rfl
    | cons a l ih =>
      rw [List.flatMap_cons, List.length_append, ih, List.length_cons]
      show 2 + 2 * l.length = 2 * (l.length + 1)
      omega
  rw [this, List.length_take]
  show 14 + _ ≤ _
  omega
theorem namesAt_succ {i : Nat} {c : Nat} (h : ("cdefghijklmno" : Str).cps.toList[i]? = some c) : namesAt (i + 1) = namesAt i ++ [⟨#[c]⟩, (⟨#[c]⟩ : Str) ++ ("x" : Str)] := by
  unfold namesAt
  rw [List.take_add_one, h, List.flatMap_append, ← List.append_assoc]
  rfl
section
variable {P : Program} {w : World} {K : PySem.W.Frag} {mg : Str → Option Value} {base : Heap} {Tb : List (Addr × Str)}
theorem ok_law_names {f : Addr} {fd : FuncData} (F : FnP K "_law_names" s_law_names f fd) (T : Tx K mg) (G_law_shuffled : Fn P w K mg base "_law_shuffled" 2 ["source", "items"] (sp_law_shuffled Tb K)) : FnOk P w K mg base CX0 3 f fd ["source"] (sp_law_names Tb K) := by
  refine F.ok sc_law_names (fun vs H Q E h => ?_) (fun cdv A outer s H vs Q E hr h => ?_)
  · obtain ⟨_, _, _, _, rfl, _⟩ := h
    rfl
  · obtain ⟨p, n, L, G, rfl, hs, hn, k⟩ := h
    refine ⟨_, PSs.nox (pss_cons (ps_set (i := 1) sc_law_names.nd rfl (Or.inl rfl) (pe_lst (pa_cons pe_str (pa_cons pe_str (pa_cons pe_str (pa_cons pe_str (pa_cons pe_str (pa_cons pe_str (pa_cons pe_str (pa_cons pe_str (pa_cons pe_str (pa_cons pe_str (pa_cons pe_str (pa_cons pe_str (pa_cons pe_str pa_nil)))))))))))))))
      (pss_cons (ps_expr (peBm (K := K) rfl PySem.F.plainAttrs_list PySem.F.slot_list_append PySem.F.type_list_append mt_append (pv 1) (pa_cons pe_str pa_nil)))
      (pss_cons (ps_for PassesOwn.never rfl (pi_str pe_str) (pg_name (i := 2) sc_law_names.nd rfl (Or.inl rfl)) (pss_one (ps_set (i := 1) sc_law_names.nd rfl (Or.inl rfl) (pe_op op_cat (pv 1) (pe_lst (pa_cons (pv 2) (pa_cons (pe_op op_add_str (pv 2) pe_str) pa_nil)))))))
      (pss_one (ps_ret (pe_fn G_law_shuffled (hr.mono (by decide)) (pa_cons (pv 0) (pa_cons (pv 1) pa_nil)))))))), ?_⟩
    refine ⟨by show _ ≤ sizeLine; decide, fun a ha => ?_⟩
    have h0 : Nw H a := .of ha
    have g0 : Gr Tb H (upd H a (.lst ((namesAt 0).dropLast.map V.str))) := Gr.new ha
    refine ⟨_, rfl, .inl ⟨rfl, _, SqL.of upd_same⟩, a, _, _, rfl, rfl, upd_same, by decide, ?_⟩
    have g1 : Gr Tb H (upd (upd H a (.lst ((namesAt 0).dropLast.map V.str))) a (.lst ((namesAt 0).map V.str))) := g0.mut h0 upd_same .lst
    refine ⟨_, rfl, for_it (walk_text (z := "cdefghijklmno")) (fun i σ H' => ∃ (b : Addr) (s2 : Option V), σ = [some (.ref p), some (.ref b), s2] ∧ Gr Tb H H' ∧ H' b = some (.lst ((namesAt i).map V.str)))
      ⟨a, none, rfl, g1, upd_same⟩ (fun _ _ _ _ _ => trivial) ?_ ?_⟩
    · rintro i x σ H1 H2 hi ⟨b, s2, rfl, g, hb⟩ ⟨rfl, hx⟩
      unfold signs at hx
      rw [List.getElem?_map] at hx
      cases hc : ("cdefghijklmno" : Str).cps.toList[i]? with
      | none => rw [hc] at hx; cases hx
      | some c =>
        rw [hc] at hx
        cases hx
        refine ⟨_, rfl, _, rfl, _, rfl, _, _, rfl, rfl, by show 1 + 1 ≤ sizeLine; decide, by show 2 ≤ sizeLine; decide, fun q hq => ?_⟩
        refine ⟨_, _, _, _, rfl, rfl, by rw [upd_ne (ne_of_none hb hq)]; exact hb, upd_same, ?_, fun r hr => ?_⟩
        · have := namesAt_len i
          have : i < 13 := hi
          rw [List.length_map, sizeLine_eq]
          show _ + 2 ≤ _
          omega
        · refine ⟨r, _, rfl, (g.trans (Gr.new hq)).trans (Gr.new hr), ?_⟩
          rw [upd_same, namesAt_succ hc, List.map_append]
          rfl
    · rintro σ H1 ⟨b, s2, rfl, g, hb⟩
      have hl : ((namesAt 13).map V.str).length = 40 := by rw [List.length_map, names_len]
      refine ⟨_, rfl, _, rfl, p, b, n, L, G, (namesAt 13).map V.str, rfl, hs.gr g, SqL.of hb, by omega, by omega, fun r H' ys hp h' => ?_⟩
      obtain ⟨ns, rfl, hp2⟩ := perm_map V.str hp
      rw [hl] at h'
      exact k r H' ns (hp2.nodup_iff.mpr names_nodup) (hp2.length_eq.trans names_len) (fun x hx => names_good x (hp2.mem_iff.mp hx)) (fun hx => names_nobody (hp2.mem_iff.mp hx)) h'
end
end Sk
namespace Sk
open PySem PySem.Spec PyProof.Rows L2
abbrev s_law_entries : Stmt := topS 31
abbrev N_law_entries : List Str := ["source", "most", "found", "weight", "name", "wide", "lighter", "size", "other", "its_weight", "parts", "k"]
theorem sc_law_entries : FnScope N_law_entries ["source", "most"] (defScope s_law_entries) := ⟨rfl, rfl, rfl, by decide +kernel, rfl, by decide +kernel, by decide +kernel⟩
/-- the lists of parts of different entries are different lists -/
def PNd (G : Hp) (ys : List V) : Prop := (ys.filterMap (itemAt G 2)).Nodup
/-- entries as the law makes them -/
structure Made (es : List Ent) : Prop where
  v : Valid es
  few : es.length ≤ 40
  fewp : ∀ e ∈ es, e.parts.length ≤ 6
  wt : ∀ e ∈ es, e.w < 10 ^ 13
  nb : ∀ e ∈ es, e.name ≠ Str.ofString "nobody"
def sp_law_entries (Tb : List (Addr × Str)) (K : PySem.W.Frag) : Sp := fun vs H Q _ => ∃ (p : Addr) (n : Nat) (L : List (Addr × HO)) (G : Hp) (most : Int), vs = [.ref p, .int most] ∧ Hs Tb p n L G H ∧ n + 1000 < 1000000000 ∧ 1 ≤ most ∧ most ≤ 39 ∧
  ∀ r H' G' ys es, Same G G' → CatAt G' ys es → PNd G' ys → Made es → es.length ≤ most → Hs Tb p (n + 1000) ((r, .lst ys) :: L) G' H' → Q (.ref r) H'
theorem Made.perm {es es' : List Ent} (p : es'.Perm es) (v : Made es) : Made es' :=
  ⟨v.v.perm p, by rw [p.length_eq]; exact v.few, fun e he => v.fewp e (p.mem_iff.mp he), fun e he => v.wt e (p.mem_iff.mp he), fun e he => v.nb e (p.mem_iff.mp he)⟩
theorem nameB_shw {x : Str} (h : nameB x = true) : ShwS x := by
  unfold nameB at h
  simp only [Bool.and_eq_true, decide_eq_true_eq, List.all_eq_true] at h
  refine ⟨Nat.le_trans h.2.1 (by decide), fun c hc => ?_⟩
  have h1 := h.2.2 c hc
  have h2 : ∀ c ∈ letters.cps.toList, c < 16 ^ 8 := by decide +kernel
  exact h2 c h1
theorem Valid.part {es : List Ent} (v : Valid es) {e : Ent} (he : e ∈ es) {q : Str} (hq : q ∈ e.parts) : nameB q = true := by
  obtain ⟨e', h1, rfl, _⟩ := v.lighter e he q hq
  exact v.names e' h1
theorem Made.shw {es : List Ent} (m : Made es) : ∀ e ∈ es, ShwE e := fun e he =>
  ⟨nameB_shw (m.v.names e he), by have h1 := m.wt e he; have h2 := m.v.pos e he; have : e.w.natAbs < 10 ^ 13 := by omega
                                  exact Nat.lt_trans this (by decide), Nat.le_trans (m.fewp e he) (by decide), fun q hq => nameB_shw (m.v.part he hq)⟩
/-- one more kind that nobody has -/
theorem Made.nobody {es : List Ent} (m : Made es) {w : Int} (h : 1 ≤ w) : Valid (⟨Str.ofString "nobody", w, []⟩ :: es) := by
  refine ⟨by simp, fun e he => ?_, ?_, fun e he => ?_, fun e he q hq => ?_, ?_, fun e he => ?_⟩
  · rcases List.mem_cons.mp he with rfl | he
    · show nameB (Str.ofString "nobody") = true
      decide +kernel
    · exact m.v.names e he
  · rw [List.map_cons, List.nodup_cons]
    refine ⟨fun hm => ?_, m.v.nodup⟩
    obtain ⟨e, he, z⟩ := List.mem_map.mp hm
    exact m.nb e he z
  · rcases List.mem_cons.mp he with rfl | he
    · exact h
    · exact m.v.pos e he
  · rcases List.mem_cons.mp he with rfl | he
    · cases hq
    · obtain ⟨e', a, b⟩ := m.v.lighter e he q hq
      exact ⟨e', List.mem_cons_of_mem _ a, b⟩
  · have := m.few
    rw [List.length_cons]
    omega
  · rcases List.mem_cons.mp he with rfl | he
    · exact Nat.zero_le _
    · exact m.v.fewp e he
/-- what is made so far -/
structure MadeAt (ns : List Str) (i : Nat) (w : Int) (es : List Ent) : Prop where
  names : es.map (·.name) = ns.take i
  pos : ∀ e ∈ es, 1 ≤ e.w ∧ e.w ≤ w
  lighter : ∀ e ∈ es, ∀ q ∈ e.parts, ∃ e' ∈ es, e'.name = q ∧ e'.w < e.w
  fewp : ∀ e ∈ es, e.parts.length ≤ 6
  w1 : 1 ≤ w
  w2 : w ≤ 1 + 40000000000 * (i : Int)
theorem MadeAt.step {ns : List Str} {i : Nat} {w w' : Int} {es : List Ent} {x : Str} {ps : List Str} (m : MadeAt ns i w es) (hx : ns[i]? = some x) (h1 : w ≤ w') (h2 : w' ≤ w + 40000000000)
    (hp : ∀ q ∈ ps, ∃ e' ∈ es, e'.name = q ∧ e'.w < w') (hl : ps.length ≤ 6) : MadeAt ns (i + 1) w' (es ++ [⟨x, w', ps⟩]) := by
  refine ⟨?_, fun e he => ?_, fun e he q hq => ?_, fun e he => ?_, Int.le_trans m.w1 h1, ?_⟩
  · rw [List.map_append, m.names, take_snoc hx]
    rfl
  · rcases List.mem_append.mp he with z | z
    · have := m.pos e z
      omega
    · rw [List.mem_singleton.mp z]
      have := m.w1
      exact ⟨by show 1 ≤ w'; omega, Int.le_refl _⟩
  · rcases List.mem_append.mp he with z | z
    · obtain ⟨e', a, b⟩ := m.lighter e z q hq
      exact ⟨e', List.mem_append_left _ a, b⟩
    · rw [List.mem_singleton.mp z] at hq ⊢
      obtain ⟨e', a, b⟩ := hp q hq
      exact ⟨e', List.mem_append_left _ a, b⟩
  · rcases List.mem_append.mp he with z | z
    · exact m.fewp e z
    · rw [List.mem_singleton.mp z]
      exact hl
  · have := m.w2
    omega
theorem MadeAt.made {ns : List Str} {w : Int} {es : List Ent} (m : MadeAt ns ns.length w es) (hn : ns.Nodup) (h0 : ns ≠ []) (h1 : ns.length ≤ 40) (hg : ∀ x ∈ ns, nameB x = true) (hb : Str.ofString "nobody" ∉ ns) : Made es ∧ es.length = ns.length := by
  have hnm := m.names
  rw [List.take_length] at hnm
  have hle : es.length = ns.length := by rw [← hnm, List.length_map]
  have hin : ∀ e ∈ es, e.name ∈ ns := fun e he => by
    rw [← hnm]
    exact List.mem_map.mpr ⟨e, he, rfl⟩
  refine ⟨⟨⟨fun z => h0 ?_, fun e he => hg _ (hin e he), by rw [hnm]; exact hn, fun e he => (m.pos e he).1, m.lighter, by omega, fun e he => Nat.le_trans (m.fewp e he) (by decide)⟩, by omega, m.fewp, fun e he => ?_, fun e he z => hb (z ▸ hin e he)⟩, hle⟩
  · rw [z] at hnm
    exact hnm.symm
  · have := (m.pos e he).2
    have := m.w2
    omega
theorem PNd.step {G G2 : Hp} {ys : List V} {es : List Ent} {t D : Addr} {a b : V} (h : PNd G ys) (hc : CatAt G ys es) (hD : G D = none) (s : Same G G2) (ht : G2 t = some (.tup [a, b, .ref D])) : PNd G2 (ys ++ [.ref t]) := by
  have e : ∀ {ys : List V} {es : List Ent}, CatAt G ys es → ys.filterMap (itemAt G2 2) = ys.filterMap (itemAt G 2) ∧ V.ref D ∉ ys.filterMap (itemAt G 2) := by
    intro ys es hc
    clear h
    induction hc with
    | nil => exact ⟨rfl, by simp⟩
    | cons a _ ih =>
      obtain ⟨t, l, rfl, h1, h2⟩ := a
      rw [List.filterMap_cons, List.filterMap_cons, itemAt_tup h1, itemAt_tup (s _ _ h1), ih.1]
      refine ⟨rfl, fun hm => ?_⟩
      rcases List.mem_cons.mp hm with z | z
      · cases z
        rw [hD] at h2
        cases h2
      · exact ih.2 z
  unfold PNd
  rw [List.filterMap_append, (e hc).1]
  have : [V.ref t].filterMap (itemAt G2 2) = [.ref D] := by
    rw [List.filterMap_cons, itemAt_tup ht]
    rfl
  rw [this]
  refine List.nodup_append.mpr ⟨h, by simp, fun x hx y hy => ?_⟩
  rw [List.mem_singleton.mp hy]
  exact fun z => (e hc).2 (z ▸ hx)
/-- the comprehension of the lighter ones -/
def lightO (H : Hp) (w : Int) (v : V) : Option V := match itemAt H 1 v with
  | some (.int u) => if u < w then itemAt H 0 v else none
  | _ => none
theorem lightO_at {H : Hp} {w : Int} {v : V} {e : Ent} (h : EntAt H v e) : lightO H w v = if e.w < w then some (V.str e.name) else none := by
  obtain ⟨t, l, rfl, ht, _⟩ := h
  unfold lightO
  rw [itemAt_tup ht, itemAt_tup ht]
  rfl
section
variable {P : Program} {w : World} {K : PySem.W.Frag} {mg : Str → Option Value} {base : Heap} {Tb : List (Addr × Str)}
theorem ok_law_entries {f : Addr} {fd : FuncData} (F : FnP K "_law_entries" s_law_entries f fd) (T : Tx K mg) (G_law_draw : Fn P w K mg base "_law_draw" 1 ["source", "many"] (sp_law_draw Tb K)) (G_law_names : Fn P w K mg base "_law_names" 3 ["source"] (sp_law_names Tb K)) (G_law_shuffled : Fn P w K mg base "_law_shuffled" 2 ["source", "items"] (sp_law_shuffled Tb K)) : FnOk P w K mg base CX0 4 f fd ["source", "most"] (sp_law_entries Tb K) := by
  refine F.ok sc_law_entries (fun vs H Q E h => ?_) (fun cdv A outer s H vs Q E hr h => ?_)
  · obtain ⟨_, _, _, _, _, rfl, _⟩ := h
    rfl
  · obtain ⟨p, n, L, G, most, rfl, hs, hn, hm1, hm2, k⟩ := h
    refine ⟨_, PSs.nox (pss_cons (ps_set (i := 2) sc_law_entries.nd rfl (Or.inl rfl) (pe_lst pa_nil))
      (pss_cons (ps_set (i := 3) sc_law_entries.nd rfl (Or.inr rfl) pe_int)
      (pss_cons (ps_for PassesOwn.never rfl (piL (K := K) rfl (pe_slice (slL (K := K) rfl) (pe_fn G_law_names (hr.mono (by decide)) (pa_cons (pv 0) pa_nil)) po_none (po_some (pe_op op_add pe_int (pe_fn G_law_draw (hr.mono (by decide)) (pa_cons (pv 0) (pa_cons (pv 1) pa_nil))))))) (pg_name (i := 4) sc_law_entries.nd rfl (Or.inl rfl)) (pss_cons (ps_set (i := 5) sc_law_entries.nd rfl (Or.inl rfl) (pe_ix (ixL (K := K) rfl) (pe_lst (pa_cons pe_int (pa_cons (pe_op op_pow pe_int pe_int) (pa_cons (pe_op op_mul pe_int (pe_op op_pow pe_int pe_int)) pa_nil)))) (pe_fn G_law_draw (hr.mono (by decide)) (pa_cons (pv 0) (pa_cons pe_int pa_nil))) (fun _ _ => rfl)))
        (pss_cons (ps_set (i := 3) sc_law_entries.nd rfl (Or.inr rfl) (pe_op op_add (pv 3) (pe_ix (ixL (K := K) rfl) (pe_lst (pa_cons pe_int (pa_cons pe_int (pa_cons (pe_fn G_law_draw (hr.mono (by decide)) (pa_cons (pv 0) (pa_cons (pv 5) pa_nil))) pa_nil)))) (pe_fn G_law_draw (hr.mono (by decide)) (pa_cons (pv 0) (pa_cons pe_int pa_nil))) (fun _ _ => rfl))))
        (pss_cons (ps_set (i := 6) sc_law_entries.nd rfl (Or.inr rfl) (pe_lc (own := [("other", 8), ("its_weight", 9), ("parts", 10)]) (g := (gTup K 3 (gCons (gName 8) (gCons (gName 9) (gCons (gName 10) gNil))))) (tt := _) rfl sc_law_entries.nd (piL (K := K) rfl (pv 2)) (blkOk_by (N := N_law_entries) (sc := (defScope s_law_entries)) (by decide +kernel)) (fun _ _ _ _ _ => (pg_tup rfl (pgs_cons (pg_name (i := 8) sc_law_entries.nd rfl (Or.inl rfl)) (pgs_cons (pg_name (i := 9) sc_law_entries.nd rfl (Or.inl rfl)) (pgs_cons (pg_name (i := 10) sc_law_entries.nd rfl (Or.inl rfl)) pgs_nil))))) (fun _ _ _ _ _ => (pts_one (pt_cmpR op_lt (pv 9) (pv 3) (nomark _)))) (fun _ _ _ _ _ => (pv 8))))
        (pss_cons (ps_set (i := 7) sc_law_entries.nd rfl (Or.inl rfl) (pe_ifExp (pt_cmpR (opNeNil (K := K) rfl hr.units) (pv 6) (pe_lst pa_nil) (nomark _)) (pe_ix (ixL (K := K) rfl) (pe_lst (pa_cons pe_int (pa_cons pe_int (pa_cons pe_int (pa_cons pe_int (pa_cons pe_int (pa_cons (pe_fn G_law_draw (hr.mono (by decide)) (pa_cons (pv 0) (pa_cons pe_int pa_nil))) pa_nil))))))) (pe_fn G_law_draw (hr.mono (by decide)) (pa_cons (pv 0) (pa_cons pe_int pa_nil))) (fun _ _ => rfl)) pe_int))
        (pss_one (ps_expr (peBm (K := K) rfl PySem.F.plainAttrs_list PySem.F.slot_list_append PySem.F.type_list_append mt_append (pv 2) (pa_cons (pe_tup (pa_cons (pv 4) (pa_cons (pv 3) (pa_cons (pe_lc (own := [("k", 11)]) (g := (gName 11)) (tt := tYes) rfl sc_law_entries.nd (pi_range1 (by rfl) T.n_range (pa_cons (pv 7) pa_nil)) (blkOk_by (N := N_law_entries) (sc := (defScope s_law_entries)) (by decide +kernel)) (fun _ _ _ _ _ => (pg_name (i := 11) sc_law_entries.nd rfl (Or.inl rfl))) (fun _ _ _ _ _ => pts_nil) (fun _ _ _ _ _ => (pe_ix (ixL (K := K) rfl) (pv 6) (pe_fn G_law_draw (hr.mono (by decide)) (pa_cons (pv 0) (pa_cons (pe_callB (lenS (K := K) rfl) (by rfl) T.n_len (by decide +kernel) (pa_cons (pv 6) pa_nil)) pa_nil))) (fun _ _ => rfl)))) pa_nil)))) pa_nil)))))))))
      (pss_one (ps_ret (pe_fn G_law_shuffled (hr.mono (by decide)) (pa_cons (pv 0) (pa_cons (pv 2) pa_nil)))))))), ?_⟩
    refine ⟨Nat.zero_le _, fun f hf => ?_⟩
    have hs1 := hs.new hf (.lst (xs := []))
    refine ⟨_, rfl, p, n, _, G, rfl, hs1, by omega, fun a1 H2 ns hnd hnl hng hnb hs2 => ?_⟩
    refine ⟨_, rfl, _, rfl, p, n + 40, _, G, most, rfl, hs2, by omega, hm1, by show most < 2 ^ 200; omega, fun d H3 d0 d1 hs3 => ?_⟩
    refine ⟨_, _, rfl, rfl, _, rfl, a1, _, rfl, SqL.of (hs3.get (i := 0) rfl), fun a2 ha2 => ?_⟩
    have ecut : cutV (ns.map V.str) none (some (1 + d)) = (ns.take (1 + d).toNat).map V.str := by
      rw [cut_take (by omega), List.map_take]
    rw [ecut]
    generalize hsn : ns.take (1 + d).toNat = sn
    have snl : sn.length = (1 + d).toNat := by rw [← hsn, List.length_take, hnl]; omega
    have snd : sn.Nodup := by rw [← hsn]; exact hnd.sublist (List.take_sublist _ _)
    have sng : ∀ x ∈ sn, nameB x = true := fun x hx => hng x (by rw [← hsn] at hx; exact List.mem_of_mem_take hx)
    have snb : Str.ofString "nobody" ∉ sn := fun hx => hnb (by rw [← hsn] at hx; exact List.mem_of_mem_take hx)
    have sn0 : sn ≠ [] := fun z => by rw [z] at snl; simp at snl; omega
    have snl2 : (sn.map V.str).length = sn.length := List.length_map ..
    have snl3 : (sn.length : Int) ≤ most := by omega
    clear ecut hsn
    have hs4 := (hs3.drop1.new ha2 (.lst (xs := sn.map V.str))).freeze
    generalize hG0 : upd G a2 (.lst (sn.map V.str)) = G0 at hs4
    have gg : Same G G0 := by rw [← hG0]; exact Same.upd (hs3.gfree ha2)
    have g0a : G0 a2 = some (.lst (sn.map V.str)) := by rw [← hG0]; exact upd_same
    clear hG0
    refine ⟨_, rfl, ⟨_, SqL.of upd_same⟩, for_list (K := K) (a := a2) (xs := sn.map V.str) (fun i σ H' => ∃ (w : Int) (G1 : Hp) (ys : List V) (es : List Ent) (s4 s5 s6 s7 : Option V), σ = [some (.ref p), some (.int most), some (.ref f), some (.int w), s4, s5, s6, s7, none, none, none, none] ∧ Same G0 G1 ∧ CatAt G1 ys es ∧ PNd G1 ys ∧ MadeAt sn i w es ∧ Hs Tb p (n + 41 + 11 * i) ((f, .lst ys) :: L) G1 H')
      ⟨1, G0, [], [], none, none, none, none, rfl, fun _ _ e => e, .nil, List.nodup_nil, ⟨rfl, by simp, by simp, by simp, by decide, by decide⟩, hs4⟩
      (fun i σ H' _ ⟨w, G1, ys, es, _, _, _, _, _, gs, _, _, _, h'⟩ => SqL.of (h'.fzat (gs _ _ g0a))) ?_ ?_⟩
    · rintro i x σ H1 hx ⟨w, G1, ys, es, s4, s5, s6, s7, rfl, gs, hc, hpn, hma, h1⟩
      have hi : i < sn.length := by
        have := (List.getElem?_eq_some_iff.mp hx).1
        rwa [List.length_map] at this
      rw [List.getElem?_map, List.getElem?_eq_getElem hi] at hx
      cases hx
      have hxn : sn[i]? = some sn[i] := List.getElem?_eq_getElem hi
      generalize sn[i] = nm at hxn
      -- wide
      refine ⟨_, _, rfl, rfl, ⟨by decide, by decide, by decide⟩, _, _, rfl, rfl, ⟨by decide, by decide, by decide⟩, _, _, rfl, rfl, .inl ⟨by decide, by decide⟩, by show 3 ≤ sizeLine; decide, fun l hl => ?_⟩
      refine ⟨_, rfl, p, _, _, G1, 3, rfl, h1.new hl .lst, by omega, by decide, by decide, fun d H2 d0 d1 h2 => ?_⟩
      obtain ⟨wide, ew, w9, w10⟩ := pick_int (P := fun i => 9 ≤ i ∧ i ≤ 40000000000) [9, 10 ^ 10, 4 * 10 ^ 10] rfl d0 d1 (by decide)
      refine ⟨l, _, d, .int wide, rfl, rfl, SqL.of (h2.get (i := 0) rfl), ew, ?_⟩
      have h3 := h2.drop1
      clear h2 ew
      -- weight
      refine ⟨_, rfl, _, rfl, _, rfl, p, _, _, G1, wide, rfl, h3, by omega, by omega, by show wide < 2 ^ 200; omega, fun dw H3 dw0 dw1 h4 => ⟨by show 3 ≤ sizeLine; decide, fun l2 hl2 => ?_⟩⟩
      refine ⟨_, rfl, p, _, _, G1, 3, rfl, h4.new hl2 .lst, by omega, by decide, by decide, fun d2 H4 d20 d21 h5 => ?_⟩
      obtain ⟨wd, ewd, wd0, wd1⟩ := pick_int (P := fun i => 0 ≤ i ∧ i ≤ 40000000000) [0, 1, dw] rfl d20 d21 (by simp; omega)
      refine ⟨l2, _, d2, .int wd, rfl, rfl, SqL.of (h5.get (i := 0) rfl), ewd, _, _, rfl, rfl, ?_⟩
      have h6 := h5.drop1
      clear h5 ewd
      -- lighter
      have hcl : CatAt H4 ys es := hc.mono h6.fz.sub
      have hyl := Paired.len hc
      have hnl2 : es.length ≤ 40 := by
        have := congrArg List.length hma.names
        rw [List.length_map, List.length_take] at this
        omega
      refine ⟨_, rfl, f, rfl, ⟨_, SqL.of (h6.get (i := 0) rfl)⟩, fun D hD => lc_fm (Tb := Tb) (xs := ys) walk_list rfl (lightO H4 (w + wd)) hD (by omega) (fun H' g => SqL.of (g.at (h6.get (i := 0) rfl) .lst)) (fun j v H' hv g Rk Rs hk hks => ?_) fun H5 g5 hD5 => ?_⟩
      · obtain ⟨e, he, hev⟩ := Paired.at hcl hv
        have hlo := lightO_at (w := w + wd) hev
        obtain ⟨t, lp, rfl, ht, hlp⟩ := hev
        refine gtup3 (g.at ht .tup) ⟨rfl, _, rfl, _, rfl, _, _, rfl, rfl, _, rfl, ?_⟩
        refine ite2 (fun c1 => ?_) (fun c1 => ?_)
        · have c2 := of_decide_eq_true c1
          exact ⟨_, rfl, hk _ _ (by rw [hlo, if_pos c2]) (Gr.refl _)⟩
        · exact hks _ (by rw [hlo, if_neg (fun z => c1 (decide_eq_true z))]) (Gr.refl _)
      have elt : ys.filterMap (lightO H4 (w + wd)) = ((es.filter fun e => decide (e.w < w + wd)).map (·.name)).map V.str := by
        rw [fm_pairedO (g := fun e => if e.w < w + wd then some (V.str e.name) else none) (fun v e h => lightO_at h) hcl]
        clear hcl hc hma hyl hnl2
        induction es with
        | nil => rfl
        | cons e es ih =>
          rw [List.filterMap_cons, List.filter_cons]
          by_cases c : e.w < w + wd
          · rw [if_pos c, if_pos (decide_eq_true c), ih]
            rfl
          · rw [if_neg c, if_neg (by rw [decide_eq_true_eq]; exact c), ih]
      rw [elt] at hD5
      have h7 := h6.grow g5 (.of hD) hD5 .lst
      have hlight : ∀ q ∈ (es.filter fun e => decide (e.w < w + wd)).map (·.name), ∃ e' ∈ es, e'.name = q ∧ e'.w < w + wd := fun q hq => by
        obtain ⟨e, he, rfl⟩ := List.mem_map.mp hq
        obtain ⟨a, b⟩ := List.mem_filter.mp he
        exact ⟨e, a, rfl, of_decide_eq_true b⟩
      have hll : ((es.filter fun e => decide (e.w < w + wd)).map (·.name)).length ≤ 40 := by
        rw [List.length_map]
        exact Nat.le_trans (List.length_filter_le _ _) hnl2
      generalize (es.filter fun e => decide (e.w < w + wd)).map (·.name) = lt at h7 hlight hll
      clear elt hD5 hcl h6
      -- size
      refine goN ?_
      dsimp only
      refine sq_asg (fun x H6 => ∃ sz : Nat, x = .int sz ∧ sz ≤ 6 ∧ (lt = [] → sz = 0) ∧ Hs Tb p (n + 41 + 11 * i + 5) ((D, .lst (lt.map V.str)) :: (f, .lst ys) :: L) G1 H6) (fun Q' kq => ?_) ?_
      · refine ⟨_, rfl, rd_nil (SqL.of (h7.get (i := 0) rfl)) fun b hb => ⟨_, rfl, ?_⟩⟩
        have h8 := (h7.new hb (.lst (xs := []))).drop1
        cases lt with
        | nil => exact kq _ _ ⟨0, rfl, by decide, fun _ => rfl, h8.mono (by omega)⟩
        | cons l0 lt' =>
          refine ⟨_, rfl, p, _, _, G1, 7, rfl, h8, by omega, by decide, by decide, fun ds H6 ds0 ds1 h9 => ⟨by show 6 ≤ sizeLine; decide, fun l3 hl3 => ?_⟩⟩
          refine ⟨_, rfl, p, _, _, G1, 6, rfl, h9.new hl3 .lst, by omega, by decide, by decide, fun d3 H7 d30 d31 h10 => ?_⟩
          obtain ⟨sz, esz, sz0, sz1⟩ := pick_int (P := fun i => 0 ≤ i ∧ i ≤ 6) [0, 1, 2, 2, 3, ds] rfl d30 d31 (by simp; omega)
          obtain ⟨sz, rfl⟩ := Int.eq_ofNat_of_zero_le sz0
          exact ⟨l3, _, d3, .int sz, rfl, rfl, SqL.of (h10.get (i := 0) rfl), esz, kq _ _ ⟨sz, rfl, by omega, (fun z => by cases z), h10.drop1⟩⟩
      · rintro x H6 ⟨sz, rfl, sz6, szn, h8⟩
        refine ⟨_, rfl, .inl ⟨rfl, _, SqL.of (h8.get (i := 1) rfl)⟩, _, rfl, _, rfl, _, rfl, (sz : Int), rfl, by omega, by omega, fun D2 hD2 => lc_range (lo := 0) (n := sz) (fun j H' => ∃ acc : List Str, acc.length = j ∧ (∀ q ∈ acc, q ∈ lt) ∧ Hs Tb p (n + 41 + 11 * i + 5 + j) ((D2, .lst (acc.map V.str)) :: (D, .lst (lt.map V.str)) :: (f, .lst ys) :: L) G1 H') ⟨[], rfl, by simp, h8.new hD2 .lst⟩ ?_ ?_⟩
        · rintro j H' hj ⟨acc, hal, hin, h9⟩
          have hlt0 : 0 < lt.length := by
            cases lt with
            | nil => rw [szn rfl] at hj; omega
            | cons _ _ => rw [List.length_cons]; omega
          refine ⟨rfl, _, rfl, _, rfl, _, rfl, D, _, rfl, .inl (SqL.of (h9.get (i := 1) rfl)), p, _, _, G1, (lt.length : Int), ?_, h9, by omega, by omega, by show (lt.length : Int) < 2 ^ 200; omega, fun r H7 r0 r1 h10 => ?_⟩
          · rw [List.length_map]
            rfl
          · obtain ⟨y, hy, ey⟩ := pick_at (xs := lt.map V.str) r0 (by rw [List.length_map]; exact r1)
            obtain ⟨q, hq, rfl⟩ := List.mem_map.mp hy
            refine ⟨D, _, r, .str q, rfl, rfl, SqL.of (h10.get (i := 1) rfl), ey, _, h10.get (i := 0) rfl, ?_, acc ++ [q], ?_, fun q2 hq2 => ?_, ?_⟩
            · rw [List.length_map, sizeLine_eq]
              omega
            · rw [List.length_append, List.length_singleton, hal]
            · rcases List.mem_append.mp hq2 with z | z
              · exact hin q2 z
              · rw [List.mem_singleton.mp z]
                exact hq
            · have h11 := h10.put (i := 0) (o' := .lst ((acc ++ [q]).map V.str)) rfl .lst
              rw [List.map_append] at h11 ⊢
              exact h11
        · rintro H7 ⟨ps, hpl, hpi, h9⟩
          refine ⟨by show 3 ≤ sizeLine; decide, fun t ht => ?_⟩
          have gD : G1 D2 = none := h9.cfree
          have h10 := h9.drop2.freeze
          have gt : upd G1 D2 (.lst (ps.map V.str)) t = none := h10.gfree ht
          have h11 := (h10.new ht (.tup (xs := [.str nm, .int (w + wd), .ref D2]))).freeze
          have Dt : D2 ≠ t := ne_of_none (upd_same (H := G1)) gt
          have s1 : Same G1 (upd (upd G1 D2 (.lst (ps.map V.str))) t (.tup [.str nm, .int (w + wd), .ref D2])) := fun b u e => Same.upd gt b u (Same.upd gD b u e)
          refine ⟨f, ys, _, rfl, rfl, h11.get (i := 0) rfl, by rw [sizeLine_eq]; omega, ?_⟩
          refine ⟨w + wd, _, ys ++ [.ref t], es ++ [⟨nm, w + wd, ps⟩], _, _, _, _, rfl, fun b u e => s1 b u (gs b u e), Paired.snoc ⟨t, D2, rfl, upd_same, ?_⟩ (hc.mono s1), hpn.step hc gD s1 upd_same, hma.step hxn (by omega) (by omega) (fun q hq => hlight q (hpi q hq)) (by omega), ?_⟩
          · exact (h11.put (i := 0) rfl .lst).mono (by omega)
          · rw [upd_ne Dt]
            exact upd_same
    · rintro σ H1 ⟨w, G1, ys, es, s4, s5, s6, s7, rfl, gs, hc, hpn, hma, h1⟩
      rw [snl2] at hma h1
      obtain ⟨hmd, hel⟩ := hma.made snd sn0 (by omega) sng snb
      have hyl := Paired.len hc
      refine ⟨_, rfl, _, rfl, p, f, _, _, G1, ys, rfl, h1, SqL.of (h1.get (i := 0) rfl), by omega, by omega, fun r H' ys' hp h' => ?_⟩
      obtain ⟨es', pe, hc'⟩ := Paired.perm hp hc
      exact k r H' G1 ys' es' (fun b u e => gs b u (gg b u e)) hc' ((hp.filterMap _).nodup_iff.mpr hpn) (hmd.perm pe) (by rw [pe.length_eq, hel]; exact snl3) (h'.drop2.mono (by omega))
end
end Sk
namespace Sk
open PySem PySem.Spec PyProof.Rows L2
abbrev s_law_is_name : Stmt := topS 33
abbrev N_law_is_name : List Str := ["name", "odd", "letter"]
theorem sc_law_is_name : FnScope N_law_is_name ["name"] (defScope s_law_is_name) := ⟨rfl, rfl, rfl, by decide +kernel, rfl, by decide +kernel, by decide +kernel⟩
def sp_law_is_name (Tb : List (Addr × Str)) (K : PySem.W.Frag) : Sp := fun vs H Q _ => ∃ x : Str, vs = [.str x] ∧ x.length ≤ 1000000 ∧ ∀ H', Gr Tb H H' → Q (.bl (nameB x)) H'
/-- the signs that are no letters -/
def oddV (v : V) : Option V := match v with
  | .str y => if y.cps.getD 0 0 ∈ letters.cps.toList then none else some (.str y)
  | _ => none
theorem oddV_nil (x : Str) : (signs x).filterMap oddV = [] ↔ (x.cps.toList.all fun c => decide (c ∈ letters.cps.toList)) = true := by
  unfold signs
  rw [List.filterMap_map, List.all_eq_true, List.filterMap_eq_nil_iff]
  refine forall_congr' fun c => forall_congr' fun _ => ?_
  rw [decide_eq_true_iff]
  show (if c ∈ letters.cps.toList then none else some (V.str ⟨#[c]⟩)) = none ↔ _
  by_cases z : c ∈ letters.cps.toList
  · rw [if_pos z]
    exact ⟨fun _ => z, fun _ => rfl⟩
  · rw [if_neg z]
    exact ⟨(fun h => by cases h), (fun h => absurd h z)⟩
section
variable {P : Program} {w : World} {K : PySem.W.Frag} {mg : Str → Option Value} {base : Heap} {Tb : List (Addr × Str)}
theorem ok_law_is_name {f : Addr} {fd : FuncData} (F : FnP K "_law_is_name" s_law_is_name f fd) (T : Tx K mg) : FnOk P w K mg base CX0 1 f fd ["name"] (sp_law_is_name Tb K) := by
  refine F.ok sc_law_is_name (fun vs H Q E h => ?_) (fun cdv A outer s H vs Q E hr h => ?_)
  · obtain ⟨_, rfl, _⟩ := h
    rfl
  · obtain ⟨x, rfl, hz, k⟩ := h
    refine ⟨_, PSs.nox (pss_cons (ps_setLc (i := 1) (own := [("letter", 2)]) (g := (gName 2)) (tt := _) rfl sc_law_is_name.nd rfl rfl (sw_true rfl rfl rfl (by decide +kernel)) (pi_str (pv 0)) (blkOk_by (N := N_law_is_name) (sc := (defScope s_law_is_name)) (by decide +kernel)) (fun _ _ _ _ _ => (pg_name (i := 2) sc_law_is_name.nd rfl (Or.inl rfl))) (fun _ _ _ _ _ => (pts_one (pt_cmpR op_notIn_sign (pv 2) pe_str rfl))) (fun _ _ _ _ _ => (pv 2)))
      (pss_one (ps_ret (pe_and (pe_chain op_le op_le pe_int (pe_callB call_len_str (by rfl) T.n_len (by decide +kernel) (pa_cons (pv 0) pa_nil)) pe_int) (pe_one (pe_cmpR (opEqNil (K := K) rfl hr.units) (pv 1) (pe_lst pa_nil) (nomark _))))))), ?_⟩
    refine ⟨_, rfl, x, rfl, fun D hD => lc_fm (Tb := Tb) (xs := signs x) walk_text rfl oddV hD ?_ (fun _ _ => trivial) (fun j v H' hv g Rk Rs hk hs => ?_) fun H3 g4 hD4 => ?_⟩
    · unfold signs
      rw [List.length_map, Array.length_toList]
      have : x.cps.size = x.length := rfl
      omega
    · unfold signs at hv
      rw [List.getElem?_map] at hv
      cases hcp : x.cps.toList[j]? with
      | none =>
        rw [hcp] at hv
        cases hv
      | some cp =>
        rw [hcp] at hv
        cases hv
        refine ⟨rfl, _, rfl, cp, _, rfl, rfl, _, rfl, ?_⟩
        have eo : oddV (.str ⟨#[cp]⟩) = if cp ∈ letters.cps.toList then none else some (.str ⟨#[cp]⟩) := rfl
        refine ite2 (fun q => ?_) (fun q => ?_)
        · refine ⟨_, rfl, hk _ _ ?_ (Gr.refl _)⟩
          rw [eo, if_neg (fun z => by rw [Bool.not_eq_true', decide_eq_false_iff_not] at q; exact q z)]
        · refine hs _ ?_ (Gr.refl _)
          rw [eo, if_pos (Decidable.byContradiction fun z => q (by rw [Bool.not_eq_true', decide_eq_false_iff_not]; exact z))]
    have eb : nameB x = (decide (1 ≤ x.length) && (decide (x.length ≤ 8) && x.cps.toList.all fun c => decide (c ∈ letters.cps.toList))) := rfl
    refine ⟨_, rfl, x, rfl, Nat.le_trans hz (by decide), _, _, rfl, rfl, _, rfl, ?_⟩
    refine ite2 (fun h1 => ?_) (fun h1 => ?_)
    rotate_left
    · refine ⟨_, rfl, iteFb rfl ?_⟩
      have e : nameB x = false := by
        rw [eb, decide_eq_false (show ¬ 1 ≤ x.length from fun z => h1 (decide_eq_true (show (1 : Int) ≤ x.length by omega)))]
        rfl
      rw [← e]
      exact k _ g4
    have n1 : 1 ≤ x.length := by have := of_decide_eq_true h1; omega
    refine ⟨_, _, rfl, rfl, _, rfl, ?_⟩
    by_cases n2 : x.length ≤ 8
    rotate_left
    · rw [decide_eq_false (show ¬ (x.length : Int) ≤ 8 by omega)]
      refine iteFb rfl ?_
      have e : nameB x = false := by
        rw [eb, decide_eq_false n2, Bool.false_and, Bool.and_false]
      rw [← e]
      exact k _ g4
    rw [decide_eq_true (show (x.length : Int) ≤ 8 by omega)]
    rw [decide_eq_true n1, decide_eq_true n2, Bool.true_and, Bool.true_and] at eb
    refine iteTb rfl ⟨_, rfl, rd_nil (SqL.of hD4) fun p1 hp1 => ?_⟩
    have e : nameB x = ((signs x).filterMap oddV).isEmpty := by
      rw [eb, Bool.eq_iff_iff, ← oddV_nil]
      cases (signs x).filterMap oddV <;> simp
    have := k _ (g4.trans (Gr.new (o := .lst []) hp1))
    rw [e] at this
    exact this
end
end Sk
namespace Sk
open PySem PySem.Spec PyProof.Rows L2
abbrev s_law_bad_entry : Stmt := topS 34
abbrev N_law_bad_entry : List Str := ["entries", "weights", "k", "name", "weight", "parts", "heavy", "part", "entry"]
theorem sc_law_bad_entry : FnScope N_law_bad_entry ["entries"] (defScope s_law_bad_entry) := ⟨rfl, rfl, rfl, by decide +kernel, rfl, by decide +kernel, by decide +kernel⟩
def sp_law_bad_entry (Tb : List (Addr × Str)) (K : PySem.W.Frag) : Sp := fun vs H Q _ => ∃ (a : Addr) (xs : List V) (es : List Ent), vs = [.ref a] ∧ SqL K H a xs ∧ CatAt H xs es ∧ Sized es ∧ es.length ≤ 100000 ∧ (Valid es → ∀ H', Gr Tb H H' → Q .non H') ∧ (∀ (i : Nat) H', BadCat es i → Gr Tb H H' → Q (.int i) H')
/-- the parts that are heavy -/
def heavyV (ws : Num) (w : Int) (v : V) : Option V := match v with
  | .str p => if (get? ws p).getD w ≥ w then some (.str p) else none
  | _ => none
theorem heavy_nil (ws : Num) (w : Int) (ps : List Str) : (ps.map V.str).filterMap (heavyV ws w) = [] ↔ (ps.all fun p => match get? ws p with | some i => decide (i < w) | none => false) = true := by
  rw [List.filterMap_map, List.filterMap_eq_nil_iff, List.all_eq_true]
  refine forall_congr' fun p => forall_congr' fun _ => ?_
  show (if (get? ws p).getD w ≥ w then some (V.str p) else none) = none ↔ _
  cases hg : get? ws p with
  | none =>
    show (if w ≥ w then some (V.str p) else none) = none ↔ false = true
    rw [if_pos (Int.le_refl _)]
    exact ⟨(fun h => by cases h), (fun h => by cases h)⟩
  | some i =>
    show (if i ≥ w then some (V.str p) else none) = none ↔ decide (i < w) = true
    rw [decide_eq_true_iff]
    by_cases z : i ≥ w
    · rw [if_pos z]
      exact ⟨(fun h => by cases h), (fun h => by omega)⟩
    · rw [if_neg z]
      exact ⟨fun _ => by omega, fun _ => rfl⟩
/-- the weights, written from the last entry to the first -/
theorem rev_fw (l : List Ent) (e : Ent) (ws : Num) (h : ∀ x, get? ws x = get? (fw l) x) (x : Str) : get? (put ws e.name e.w) x = get? (fw (e :: l)) x := by
  rw [get?_put, fw_get _ _ rfl, h, fw_get _ _ rfl, List.find?_cons]
  by_cases c : x = e.name
  · rw [if_pos c, c, decide_eq_true (show e.name = e.name from rfl)]
    rfl
  · rw [if_neg c, decide_eq_false (show ¬ e.name = x from fun z => c z.symm)]
theorem paired_snoc {α β : Type} {R : α → β → Prop} : ∀ {xs : List α} {ys : List β} {x : α} {y : β}, Paired R xs ys → R x y → Paired R (xs ++ [x]) (ys ++ [y])
  | _, _, _, _, .nil, h => .cons h .nil
  | _, _, _, _, .cons a t, h => .cons a (paired_snoc t h)
theorem paired_rev {α β : Type} {R : α → β → Prop} : ∀ {xs : List α} {ys : List β}, Paired R xs ys → Paired R xs.reverse ys.reverse
  | _, _, .nil => .nil
  | _, _, .cons a t => by
    rw [List.reverse_cons, List.reverse_cons]
    exact paired_snoc (paired_rev t) a
theorem paired_takeB {α β : Type} {R : α → β → Prop} : ∀ {xs : List α} {ys : List β} (n : Nat), Paired R xs ys → Paired R (xs.take n) (ys.take n)
  | _, _, 0, _ => by rw [List.take_zero, List.take_zero]; exact .nil
  | _, _, n + 1, .nil => by rw [List.take_nil, List.take_nil]; exact .nil
  | _, _, n + 1, .cons a t => by rw [List.take_succ_cons, List.take_succ_cons]; exact .cons a (paired_takeB n t)
theorem put_len_le (d : Num) (x : Str) (i : Int) : (put d x i).length ≤ d.length + 1 := by
  unfold put
  split
  · rw [List.length_map]
    omega
  · rw [List.length_append]
    exact Nat.le_refl _
section
variable {P : Program} {w : World} {K : PySem.W.Frag} {mg : Str → Option Value} {base : Heap} {Tb : List (Addr × Str)}
theorem ok_law_bad_entry {f : Addr} {fd : FuncData} (F : FnP K "_law_bad_entry" s_law_bad_entry f fd) (T : Tx K mg) (G_law_is_name : Fn P w K mg base "_law_is_name" 1 ["name"] (sp_law_is_name Tb K)) : FnOk P w K mg base CX0 2 f fd ["entries"] (sp_law_bad_entry Tb K) := by
  refine F.ok sc_law_bad_entry (fun vs H Q E h => ?_) (fun cdv A outer s H vs Q E hr h => ?_)
  · obtain ⟨_, _, _, rfl, _⟩ := h
    rfl
  · obtain ⟨a, xs, es, rfl, ha, hc, hz, hl, k1, k2⟩ := h
    refine ⟨_, PSs.nox (pss_cons (ps_if (pt_cmpR (opEqNil (K := K) rfl hr.units) (pv 0) (pe_lst pa_nil) (nomark _)) (pss_one (ps_ret pe_int)) pss_nil)
      (pss_cons (ps_set (i := 1) sc_law_bad_entry.nd rfl (Or.inr rfl) pe_dnewK)
      (pss_cons (ps_for PassesOwn.never rfl (piL (K := K) rfl (pe_revL (pv 0))) (pg_tup rfl (pgs_cons (pg_name (i := 3) sc_law_bad_entry.nd rfl (Or.inl rfl)) (pgs_cons (pg_name (i := 4) sc_law_bad_entry.nd rfl (Or.inr rfl)) (pgs_cons (pg_name (i := 5) sc_law_bad_entry.nd rfl (Or.inl rfl)) pgs_nil)))) (pss_one (ps_dput (hu_of hr) (pv 1) (pv 3) (pv 4) rfl)))
      (pss_cons (ps_for PassesOwn.never rfl (pi_range1 (by rfl) T.n_range (pa_cons (pe_callB (lenS (K := K) rfl) (by rfl) T.n_len (by decide +kernel) (pa_cons (pv 0) pa_nil)) pa_nil)) (pg_name (i := 2) sc_law_bad_entry.nd rfl (Or.inl rfl)) (pss_cons (ps_asg (pe_ix (ixL (K := K) rfl) (pv 0) (pv 2) (fun _ _ => rfl)) (pg_tup rfl (pgs_cons (pg_name (i := 3) sc_law_bad_entry.nd rfl (Or.inl rfl)) (pgs_cons (pg_name (i := 4) sc_law_bad_entry.nd rfl (Or.inr rfl)) (pgs_cons (pg_name (i := 5) sc_law_bad_entry.nd rfl (Or.inl rfl)) pgs_nil)))))
        (pss_cons (ps_if (PW.pt (pw_or (pt_not (pt_val (pe_fn G_law_is_name (hr.mono (by decide)) (pa_cons (pv 3) pa_nil)))) (pw_or (pt_cmpR (opIn (K := K) rfl) (pv 3) (pe_lc (own := [("entry", 8)]) (g := (gName 8)) (tt := tYes) rfl sc_law_bad_entry.nd (piL (K := K) rfl (pe_slice (slL (K := K) rfl) (pv 0) po_none (po_some (pv 2)))) (blkOk_by (N := N_law_bad_entry) (sc := (defScope s_law_bad_entry)) (by decide +kernel)) (fun _ _ _ _ _ => (pg_name (i := 8) sc_law_bad_entry.nd rfl (Or.inl rfl))) (fun _ _ _ _ _ => pts_nil) (fun _ _ _ _ _ => (pe_ix (ixT (K := K) rfl) (pv 8) pe_int (fun _ _ => rfl)))) (by with_unfolding_all rfl)) (pw_or1 (pt_cmpR op_lt (pv 4) pe_int (nomark _)))))) (pss_one (ps_ret (pv 2))) pss_nil)
        (pss_cons (ps_setLc (i := 6) (own := [("part", 7)]) (g := (gName 7)) (tt := _) rfl sc_law_bad_entry.nd rfl rfl (sw_true rfl rfl rfl (by decide +kernel)) (piL (K := K) rfl (pv 5)) (blkOk_by (N := N_law_bad_entry) (sc := (defScope s_law_bad_entry)) (by decide +kernel)) (fun _ _ _ _ _ => (pg_name (i := 7) sc_law_bad_entry.nd rfl (Or.inl rfl))) (fun _ _ _ _ _ => (pts_one (pt_cmpR op_ge (pe_dget2 (hu_of hr) (pv 1) (pv 7) (pv 4) ⟨rfl, rfl, rfl, rfl⟩) (pv 4) (nomark _)))) (fun _ _ _ _ _ => (pv 7)))
        (pss_one (ps_if (pt_cmpR (opNeNil (K := K) rfl hr.units) (pv 6) (pe_lst pa_nil) (nomark _)) (pss_one (ps_ret (pv 2))) pss_nil))))))
      (pss_one (ps_ret pe_non)))))), ?_⟩
    have hlen := Paired.len hc
    refine ⟨_, rfl, rd_nil ha fun p hp => ⟨_, rfl, ?_⟩⟩
    have g0 := Gr.new (T := Tb) (o := .lst []) hp
    refine ite2 (fun he => ?_) (fun he => ?_)
    · have e0 : es = [] := by
        cases xs with
        | nil => cases hc; rfl
        | cons _ _ => cases he
      exact k2 0 _ (.inl ⟨e0, rfl⟩) g0
    have ne : es ≠ [] := fun z => by
      subst z
      cases hc
      exact he rfl
    intro d hd
    have hd0 : Nw H d := g0.nw (.of hd)
    have g1 := g0.trans (Gr.new (o := .dK []) hd)
    refine ⟨_, rfl, a, xs, rfl, g1.ext_seq ha, fun rv hrv => ?_⟩
    have g2 := g1.trans (Gr.new (o := .lst xs.reverse) hrv)
    have hr2 : (upd (upd (upd H p (.lst [])) d (.dK [])) rv (.lst xs.reverse)) rv = some (.lst xs.reverse) := upd_same
    have hd2 : (upd (upd (upd H p (.lst [])) d (.dK [])) rv (.lst xs.reverse)) d = some (.dK (dS [])) := by
      rw [upd_ne (ne_of_none upd_same hrv), upd_same]
      rfl
    have hcr : Paired (EntAt H) xs.reverse es.reverse := paired_rev hc
    generalize upd (upd (upd H p (.lst [])) d (.dK [])) rv (.lst xs.reverse) = H2 at g2 hr2 hd2
    have rd : rv ≠ d := fun z => by rw [z, hd2] at hr2; cases hr2
    refine ⟨rv, rfl, ⟨_, SqL.of hr2⟩, for_list (K := K) (a := rv) (xs := xs.reverse) (fun i σ H' => ∃ (ws : Num) (s3 s4 s5 : Option V), σ = [some (.ref a), some (.ref d), none, s3, s4, s5, none, none, none] ∧ Gr Tb H H' ∧ H' rv = some (.lst xs.reverse) ∧ H' d = some (.dK (dS ws)) ∧ ws.length ≤ i ∧ ∀ x, get? ws x = get? (fw (es.reverse.take i).reverse) x)
      ⟨[], none, none, none, rfl, g2, hr2, hd2, Nat.le_refl _, fun x => rfl⟩ (fun i σ H' _ ⟨_, _, _, _, _, _, h, _⟩ => SqL.of h) ?_ ?_⟩
    · rintro i x σ H' hx ⟨ws, s3, s4, s5, rfl, g, hrv', hdd, hwl, hws⟩
      obtain ⟨e, he, t, lp, rfl, ht, hlp⟩ := Paired.at hcr hx
      have hi := (List.getElem?_eq_some_iff.mp he).1
      rw [List.length_reverse] at hi
      refine gtup3 (g.at ht .tup) ⟨_, rfl, _, rfl, _, rfl, d, _, rfl, dputS hdd (by rw [sizeLine_eq]; omega), ?_⟩
      refine ⟨put ws e.name e.w, _, _, _, rfl, g.mut hd0 hdd .dK, by rw [upd_ne rd]; exact hrv', upd_same, Nat.le_trans (put_len_le _ _ _) (by omega), fun x => ?_⟩
      rw [take_snoc he, List.reverse_append]
      exact rev_fw _ _ _ hws x
    · rintro σ H3 ⟨ws, s3, s4, s5, rfl, g3, _, hd3, hwl, hws⟩
      rw [List.length_reverse, hlen, show es.reverse.take es.length = es.reverse from by rw [← List.length_reverse (as := es), List.take_length], List.reverse_reverse] at hws
      refine ⟨_, rfl, a, _, rfl, .inl (g3.ext_seq ha), (xs.length : Int), rfl, by omega, by omega, ?_⟩
      have hsz2 : ∀ e ∈ es, e.name.length ≤ 1000000 ∧ e.parts.length ≤ 100000 := hz.2
      refine for_range (lo := 0) (n := (xs.length : Int).toNat) (fun i σ H' => ∃ (s2 s3 s4 s5 s6 s7 s8 : Option V), σ = [some (.ref a), some (.ref d), s2, s3, s4, s5, s6, s7, s8] ∧ Gr Tb H3 H' ∧ FineTo es i)
        ⟨_, _, _, _, _, _, _, rfl, Gr.refl _, fun j e h => absurd h (Nat.not_lt_zero _)⟩ ?_ ?_
      · rintro i σ H4 hi ⟨s2, s3, s4, s5, s6, s7, s8, rfl, g4, fine⟩
        have hi' : i < xs.length := by omega
        have e0 : (0 : Int) + (i : Int) = (i : Int) := by omega
        have hxi : xs[i]? = some xs[i] := List.getElem?_eq_getElem hi'
        obtain ⟨e, he, t, lp, ex, ht, hlp⟩ := Paired.at hc hxi
        have g34 := g3.trans g4
        have hm := List.mem_of_getElem? he
        obtain ⟨z1, z2⟩ := hsz2 e hm
        refine ⟨_, rfl, _, rfl, a, xs, _, .ref t, rfl, rfl, g34.ext_seq ha, by rw [e0, ← ex]; exact atI_nat hxi, ?_⟩
        refine gtup3 (g34.at ht .tup) ?_
        have eb : entB e ((es.take i).map (·.name)) (fw es) = (nameB e.name && (!decide (e.name ∈ (es.take i).map (·.name)) && (!decide (e.w < 1) && e.parts.all fun p => match get? ws p with | some w => decide (w < e.w) | none => false))) := by
          rw [entB_congr (fun _ => Iff.rfl) (fun x => (hws x).symm)]
          rfl
        have bad : ∀ H', entB e ((es.take i).map (·.name)) (fw es) = false → Gr Tb H H' → Q (.int (0 + (i : Int))) H' := fun H' h g => by
          rw [e0]
          exact k2 i H' (.inr ⟨e, he, h, fine⟩) g
        refine ⟨_, rfl, e.name, rfl, z1, fun H5 g5 => ⟨_, rfl, ?_⟩⟩
        have g35 := g34.trans g5
        cases hn : nameB e.name with
        | false =>
          rw [hn] at eb
          exact iteTb rfl ⟨_, rfl, bad _ (by rw [eb]; rfl) g35⟩
        | true =>
          rw [hn, Bool.true_and] at eb
          refine iteFb rfl ⟨_, rfl, _, rfl, _, rfl, _, rfl, a, xs, rfl, g35.ext_seq ha, fun sl hsl => ?_⟩
          have ecut : cutV xs none (some (0 + (i : Int))) = xs.take i := by
            rw [e0, cut_take (by omega)]
            rfl
          have hs6 : (upd H5 sl (.lst (cutV xs none (some (0 + (i : Int)))))) sl = some (.lst (xs.take i)) := by rw [upd_same, ecut]
          have g36 := g35.trans (Gr.new (o := .lst (cutV xs none (some (0 + (i : Int))))) hsl)
          have g46 := (g4.trans g5).trans (Gr.new (o := .lst (cutV xs none (some (0 + (i : Int))))) hsl)
          generalize upd H5 sl (.lst (cutV xs none (some (0 + (i : Int))))) = H6 at hs6 g36 g46
          refine ⟨sl, rfl, ⟨_, SqL.of hs6⟩, fun D hD => lc_names (Tb := Tb) (SqL.of hs6) (CatAt.gr g36 (paired_takeB i hc)) (by rw [List.length_take]; omega) hD rfl fun H7 g7 hD7 => ?_⟩
          have g37 := g36.trans g7
          refine ⟨D, _, rfl, .inl (SqL.of hD7), rfl, flat_strs _, _, rfl, ?_⟩
          rw [inV_strs]
          by_cases m3 : e.name ∈ (es.take i).map (·.name)
          · rw [decide_eq_true m3]
            exact iteTb rfl ⟨_, rfl, bad _ (by rw [eb, decide_eq_true m3]; rfl) g37⟩
          rw [decide_eq_false m3] at eb ⊢
          refine iteFb (by decide) ⟨_, rfl, _, _, rfl, rfl, _, rfl, ?_⟩
          by_cases m4 : e.w < 1
          · rw [decide_eq_true m4]
            exact iteTb rfl ⟨_, rfl, bad _ (by rw [eb, decide_eq_true m4]; rfl) g37⟩
          rw [decide_eq_false m4] at eb ⊢
          refine iteFb (by decide) ?_
          simp only [Bool.not_false, Bool.true_and] at eb
          have hd7 := (g46.trans g7).at hd3 .dK
          have hlp7 := g37.at hlp .lst
          refine ⟨_, rfl, lp, rfl, ⟨_, SqL.of hlp7⟩, fun D2 hD2 => lc_fm (Tb := Tb) (xs := e.parts.map V.str) walk_list rfl (heavyV ws e.w) hD2 (by rw [List.length_map]; omega) (fun H' g => SqL.of (g.at hlp7 .lst)) (fun j v H' hv g Rk Rs hk hs => ?_) fun H8 g8 hD8 => ?_⟩
          · rw [List.getElem?_map] at hv
            cases hcp : e.parts[j]? with
            | none => rw [hcp] at hv; cases hv
            | some q =>
              rw [hcp] at hv
              cases hv
              have hd' := g.at hd7 .dK
              have ev : heavyV ws e.w (.str q) = if (get? ws q).getD e.w ≥ e.w then some (.str q) else none := rfl
              refine ⟨rfl, _, rfl, d, rfl, IsD.num hd', _, rfl, _, rfl, _, dgetO hd' q, ?_⟩
              have eg : ((get? ws q).map V.int).getD (V.int e.w) = V.int ((get? ws q).getD e.w) := by cases get? ws q <;> rfl
              rw [eg]
              refine ⟨_, rfl, _, _, rfl, rfl, _, rfl, ?_⟩
              refine ite2 (fun z => ?_) (fun z => ?_)
              · exact ⟨_, rfl, hk _ _ (by rw [ev]; exact if_pos (of_decide_eq_true z)) (Gr.refl _)⟩
              · exact hs _ (by rw [ev]; exact if_neg (fun y => z (decide_eq_true y))) (Gr.refl _)
          have g38 := g37.trans g8
          refine ⟨_, rfl, rd_nil (SqL.of hD8) fun p2 hp2 => ⟨_, rfl, ?_⟩⟩
          have g39 := g38.trans (Gr.new (o := .lst []) hp2)
          have g49 := ((g46.trans g7).trans g8).trans (Gr.new (o := .lst []) hp2)
          cases hb : entB e ((es.take i).map (·.name)) (fw es) with
          | false =>
            have hne : (e.parts.map V.str).filterMap (heavyV ws e.w) ≠ [] := fun z => by
              rw [eb, (heavy_nil ws e.w e.parts).mp z] at hb
              cases hb
            refine iteTb ?_ ⟨_, rfl, bad _ hb g39⟩
            cases hq : (e.parts.map V.str).filterMap (heavyV ws e.w) with
            | nil => exact absurd hq hne
            | cons _ _ => rfl
          | true =>
            rw [hb] at eb
            have hnil := (heavy_nil ws e.w e.parts).mpr eb.symm
            refine iteFb (by rw [hnil]; rfl) ⟨_, _, _, _, _, _, _, rfl, g49, fun j e' h hj => ?_⟩
            rcases Nat.lt_succ_iff_lt_or_eq.mp h with h | rfl
            · exact fine j e' h hj
            · rw [he] at hj
              cases hj
              exact hb
      · rintro σ H4 ⟨s2, s3, s4, s5, s6, s7, s8, rfl, g4, fine⟩
        have e1 : (xs.length : Int).toNat = es.length := by omega
        rw [e1] at fine
        exact k1 (valid_of ne fine hz.1 fun e he => (hsz2 e he).2) _ (g3.trans g4)
end
end Sk
namespace Sk
open PySem PySem.Spec PyProof.Rows L2
abbrev s_law_error : Stmt := topS 35
abbrev N_law_error : List Str := ["e", "held", "names", "name", "is_one"]
theorem sc_law_error : FnScope N_law_error ["e"] (defScope s_law_error) := ⟨rfl, rfl, rfl, by decide +kernel, rfl, by decide +kernel, by decide +kernel⟩
def seven : List Str := ["InvalidCatalogue", "InvalidStock", "InvalidSplits", "InvalidStep", "InvalidNumber", "TooManySteps", "InvalidText"]
def sp_law_error (Tb : List (Addr × Str)) (K : PySem.W.Frag) : Sp := fun vs H Q _ => ∃ (e : Addr) (C : Str) (v : V), vs = [.ref e] ∧ C ∈ seven ∧ ExcV K H e C v ∧ ∀ t H', Gr Tb H H' → Nw H t → H' t = some (.lst [.str C, v, .bl true]) → Q (.ref t) H'
theorem seven_one {C : Str} (h : C ∈ seven) : seven.filter (fun D => C == D) = [C] := by
  unfold seven at h ⊢
  simp only [List.mem_cons, List.mem_nil_iff, or_false] at h
  rcases h with rfl | rfl | rfl | rfl | rfl | rfl | rfl <;> decide
section
variable {P : Program} {w : World} {K : PySem.W.Frag} {mg : Str → Option Value} {base : Heap} {Tb : List (Addr × Str)}
theorem okT_law_error {f : Addr} {fd : FuncData} (F : FnP K "_law_error" s_law_error f fd) (T : Tx K mg) : FnT P w K mg base CX0 1 f fd ["e"] (hotSp (sp_law_error Tb K)) := by
  refine fnT_of F sc_law_error (fun a vs H Q E h => ?_) (fun cdv A outer s H vs Q E ea hh hr h => ?_)
  · obtain ⟨_, _, _, _, rfl, _⟩ := h
    rfl
  · obtain ⟨hea, h⟩ := h
    obtain ⟨e, C, v, rfl, hC, hx, k⟩ := h
    refine ⟨_, PSs.nox (pss_cons (ps_set (i := 1) sc_law_error.nd rfl (Or.inl rfl) (pe_lst (pa_cons (pe_tup (pa_cons pe_str (pa_cons (pe_callB (isXk (K := K) rfl) (by rfl) T.n_isinstance (by decide +kernel) (pa_cons (pv 0) (pa_cons (C8.pe_gc (v := V.ref (He.ga K "InvalidCatalogue")) (by rfl) ⟨_, T.g_InvalidCatalogue, rfl⟩) pa_nil))) pa_nil))) (pa_cons (pe_tup (pa_cons pe_str (pa_cons (pe_callB (isXk (K := K) rfl) (by rfl) T.n_isinstance (by decide +kernel) (pa_cons (pv 0) (pa_cons (C8.pe_gc (v := V.ref (He.ga K "InvalidStock")) (by rfl) ⟨_, T.g_InvalidStock, rfl⟩) pa_nil))) pa_nil))) pa_nil))))
      (pss_cons (ps_set (i := 1) sc_law_error.nd rfl (Or.inl rfl) (pe_op op_cat (pv 1) (pe_lst (pa_cons (pe_tup (pa_cons pe_str (pa_cons (pe_callB (isXk (K := K) rfl) (by rfl) T.n_isinstance (by decide +kernel) (pa_cons (pv 0) (pa_cons (C8.pe_gc (v := V.ref (He.ga K "InvalidSplits")) (by rfl) ⟨_, T.g_InvalidSplits, rfl⟩) pa_nil))) pa_nil))) (pa_cons (pe_tup (pa_cons pe_str (pa_cons (pe_callB (isXk (K := K) rfl) (by rfl) T.n_isinstance (by decide +kernel) (pa_cons (pv 0) (pa_cons (C8.pe_gc (v := V.ref (He.ga K "InvalidStep")) (by rfl) ⟨_, T.g_InvalidStep, rfl⟩) pa_nil))) pa_nil))) pa_nil)))))
      (pss_cons (ps_set (i := 1) sc_law_error.nd rfl (Or.inl rfl) (pe_op op_cat (pv 1) (pe_lst (pa_cons (pe_tup (pa_cons pe_str (pa_cons (pe_callB (isXk (K := K) rfl) (by rfl) T.n_isinstance (by decide +kernel) (pa_cons (pv 0) (pa_cons (C8.pe_gc (v := V.ref (He.ga K "InvalidNumber")) (by rfl) ⟨_, T.g_InvalidNumber, rfl⟩) pa_nil))) pa_nil))) (pa_cons (pe_tup (pa_cons pe_str (pa_cons (pe_callB (isXk (K := K) rfl) (by rfl) T.n_isinstance (by decide +kernel) (pa_cons (pv 0) (pa_cons (C8.pe_gc (v := V.ref (He.ga K "TooManySteps")) (by rfl) ⟨_, T.g_TooManySteps, rfl⟩) pa_nil))) pa_nil))) pa_nil)))))
      (pss_cons (ps_set (i := 1) sc_law_error.nd rfl (Or.inl rfl) (pe_op op_cat (pv 1) (pe_lst (pa_cons (pe_tup (pa_cons pe_str (pa_cons (pe_callB (isXk (K := K) rfl) (by rfl) T.n_isinstance (by decide +kernel) (pa_cons (pv 0) (pa_cons (C8.pe_gc (v := V.ref (He.ga K "InvalidText")) (by rfl) ⟨_, T.g_InvalidText, rfl⟩) pa_nil))) pa_nil))) pa_nil))))
      (pss_cons (ps_setLcT (i := 2) (own := [("name", 3), ("is_one", 4)]) (g := (gTupT K 2 ea (gCons (gName 3) (gCons (gName 4) gNil)))) (tt := _) hh sc_law_error.nd rfl rfl (sw_true rfl rfl rfl (by decide +kernel)) (piLT (K := K) rfl (pv 1)) (blkOk_by (N := N_law_error) (sc := (defScope s_law_error)) (by decide +kernel)) (fun _ _ _ _ _ => (pg_tupT hh (pgs_cons (pg_name (i := 3) sc_law_error.nd rfl (Or.inl rfl)) (pgs_cons (pg_name (i := 4) sc_law_error.nd rfl (Or.inl rfl)) pgs_nil)))) (fun _ _ _ _ _ => (pts_one (pt_val (pv 4)))) (fun _ _ _ _ _ => (pv 3)))
      (pss_one (ps_ret (pe_op op_cat (pv 2) (pe_lst (pa_cons (peXv (K := K) rfl (pv 0)) (pa_cons (pe_and (pe_callB (isXk (K := K) rfl) (by rfl) T.n_isinstance (by decide +kernel) (pa_cons (pv 0) (pa_cons (C8.pe_gc (v := V.ref (He.ga K "StoreError")) (by rfl) ⟨_, T.g_StoreError, rfl⟩) pa_nil))) (pe_one (pe_callB (isXk (K := K) rfl) (by rfl) T.n_isinstance (by decide +kernel) (pa_cons (pv 0) (pa_cons (pe_bltn (v := V.ty "ValueError") (u := Value.type "ValueError") (by rfl) T.n_ValueError (by decide +kernel) (by exact rfl)) pa_nil))))) pa_nil))))))))))), ?_⟩
    obtain rfl : e = ea := by
      have z : some (V.ref e) = some (V.ref ea) := hea
      cases z
      rfl
    have ke := kiAll_ok T.ke hC
    obtain ⟨dd, he, hdd⟩ := id hx
    have xa : ∀ {H' : Hp}, Gr Tb H H' → ExAt H' e (He.ga K C) (some dd) := fun g => ⟨g.ext e _ he exT_ntb, .inr ⟨dd, _, rfl, g.ext dd _ hdd (fun _ z => by cases z)⟩⟩
    have xf := ke.xb.is
    have g0 := Gr.refl (T := Tb) H
    refine ⟨_, rfl, e, _, some dd, _, _, _, rfl, xa g0, xf, .own _, ke.ki ("InvalidCatalogue" : Str) (by decide), by show 2 ≤ sizeLine; decide, fun t1 ht1 => ?_⟩
    have gt1 := Gr.new (T := Tb) (o := .tup [.str "InvalidCatalogue", .bl (C == ("InvalidCatalogue" : Str))]) ht1
    have at1 := g0.trans gt1
    refine ⟨_, rfl, e, _, some dd, _, _, _, rfl, xa at1, xf, .own _, ke.ki ("InvalidStock" : Str) (by decide), by show 2 ≤ sizeLine; decide, fun t2 ht2 => ?_⟩
    have gt2 := Gr.new (T := Tb) (o := .tup [.str "InvalidStock", .bl (C == ("InvalidStock" : Str))]) ht2
    have at2 := at1.trans gt2
    refine ⟨by show 2 ≤ sizeLine; decide, fun l0 hl0 => ?_⟩
    have gl0 := Gr.new (T := Tb) (o := .lst [.ref t1, .ref t2]) hl0
    have p0x := (gt2.trans gl0).at (upd_same (a := t1) (o := .tup [.str "InvalidCatalogue", .bl (C == ("InvalidCatalogue" : Str))])) .tup
    have p1x := gl0.at (upd_same (a := t2) (o := .tup [.str "InvalidStock", .bl (C == ("InvalidStock" : Str))])) .tup
    have G0 := g0.trans (gt1.trans (gt2.trans gl0))
    have phn : (upd (upd (upd H t1 (HO.tup [.str "InvalidCatalogue", .bl (C == ("InvalidCatalogue" : Str))])) t2 (HO.tup [.str "InvalidStock", .bl (C == ("InvalidStock" : Str))])) l0 (HO.lst [.ref t1, .ref t2])) l0 = some (HO.lst [.ref t1, .ref t2]) := upd_same
    generalize upd (upd (upd H t1 (HO.tup [.str "InvalidCatalogue", .bl (C == ("InvalidCatalogue" : Str))])) t2 (HO.tup [.str "InvalidStock", .bl (C == ("InvalidStock" : Str))])) l0 (HO.lst [.ref t1, .ref t2]) = B0 at p0x p1x G0 phn ⊢
    clear at1 at2 gl0 gt2 gt1
    have ph := phn
    clear phn
    refine ⟨_, rfl, _, rfl, e, _, some dd, _, _, _, rfl, xa G0, xf, .own _, ke.ki ("InvalidSplits" : Str) (by decide), by show 2 ≤ sizeLine; decide, fun t3 ht3 => ?_⟩
    have gt3 := Gr.new (T := Tb) (o := .tup [.str "InvalidSplits", .bl (C == ("InvalidSplits" : Str))]) ht3
    have at3 := G0.trans gt3
    refine ⟨_, rfl, e, _, some dd, _, _, _, rfl, xa at3, xf, .own _, ke.ki ("InvalidStep" : Str) (by decide), by show 2 ≤ sizeLine; decide, fun t4 ht4 => ?_⟩
    have gt4 := Gr.new (T := Tb) (o := .tup [.str "InvalidStep", .bl (C == ("InvalidStep" : Str))]) ht4
    have at4 := at3.trans gt4
    refine ⟨by show 2 ≤ sizeLine; decide, fun l1 hl1 => ?_⟩
    have gl1 := Gr.new (T := Tb) (o := .lst [.ref t3, .ref t4]) hl1
    have qh := (gt3.trans (gt4.trans gl1)).at ph .lst
    refine ⟨l0, l1, _, _, rfl, rfl, qh, upd_same, by show 2 + 2 ≤ sizeLine; decide, fun m1 hm1 => ?_⟩
    have gm1 := Gr.new (T := Tb) (o := .lst ([.ref t1, .ref t2] ++ [.ref t3, .ref t4])) hm1
    have p0xx := (gt3.trans (gt4.trans (gl1.trans gm1))).at p0x .tup
    have p1xx := (gt3.trans (gt4.trans (gl1.trans gm1))).at p1x .tup
    have p2xx := (gt4.trans (gl1.trans gm1)).at (upd_same (a := t3) (o := .tup [.str "InvalidSplits", .bl (C == ("InvalidSplits" : Str))])) .tup
    have p3xx := (gl1.trans gm1).at (upd_same (a := t4) (o := .tup [.str "InvalidStep", .bl (C == ("InvalidStep" : Str))])) .tup
    have G1 := G0.trans (gt3.trans (gt4.trans (gl1.trans gm1)))
    have phn : (upd (upd (upd (upd B0 t3 (HO.tup [.str "InvalidSplits", .bl (C == ("InvalidSplits" : Str))])) t4 (HO.tup [.str "InvalidStep", .bl (C == ("InvalidStep" : Str))])) l1 (HO.lst [.ref t3, .ref t4])) m1 (HO.lst ([.ref t1, .ref t2] ++ [.ref t3, .ref t4]))) m1 = some (HO.lst [.ref t1, .ref t2, .ref t3, .ref t4]) := upd_same
    generalize upd (upd (upd (upd B0 t3 (HO.tup [.str "InvalidSplits", .bl (C == ("InvalidSplits" : Str))])) t4 (HO.tup [.str "InvalidStep", .bl (C == ("InvalidStep" : Str))])) l1 (HO.lst [.ref t3, .ref t4])) m1 (HO.lst ([.ref t1, .ref t2] ++ [.ref t3, .ref t4])) = B1 at p0xx p1xx p2xx p3xx G1 phn ⊢
    clear at3 at4 gm1 gl1 gt4 gt3 qh ph
    have ph := phn
    clear phn
    refine ⟨_, rfl, _, rfl, e, _, some dd, _, _, _, rfl, xa G1, xf, .own _, ke.ki ("InvalidNumber" : Str) (by decide), by show 2 ≤ sizeLine; decide, fun t5 ht5 => ?_⟩
    have gt5 := Gr.new (T := Tb) (o := .tup [.str "InvalidNumber", .bl (C == ("InvalidNumber" : Str))]) ht5
    have at5 := G1.trans gt5
    refine ⟨_, rfl, e, _, some dd, _, _, _, rfl, xa at5, xf, .own _, ke.ki ("TooManySteps" : Str) (by decide), by show 2 ≤ sizeLine; decide, fun t6 ht6 => ?_⟩
    have gt6 := Gr.new (T := Tb) (o := .tup [.str "TooManySteps", .bl (C == ("TooManySteps" : Str))]) ht6
    have at6 := at5.trans gt6
    refine ⟨by show 2 ≤ sizeLine; decide, fun l2 hl2 => ?_⟩
    have gl2 := Gr.new (T := Tb) (o := .lst [.ref t5, .ref t6]) hl2
    have qh := (gt5.trans (gt6.trans gl2)).at ph .lst
    refine ⟨m1, l2, _, _, rfl, rfl, qh, upd_same, by show 4 + 2 ≤ sizeLine; decide, fun m2 hm2 => ?_⟩
    have gm2 := Gr.new (T := Tb) (o := .lst ([.ref t1, .ref t2, .ref t3, .ref t4] ++ [.ref t5, .ref t6])) hm2
    have p0xxx := (gt5.trans (gt6.trans (gl2.trans gm2))).at p0xx .tup
    have p1xxx := (gt5.trans (gt6.trans (gl2.trans gm2))).at p1xx .tup
    have p2xxx := (gt5.trans (gt6.trans (gl2.trans gm2))).at p2xx .tup
    have p3xxx := (gt5.trans (gt6.trans (gl2.trans gm2))).at p3xx .tup
    have p4xxx := (gt6.trans (gl2.trans gm2)).at (upd_same (a := t5) (o := .tup [.str "InvalidNumber", .bl (C == ("InvalidNumber" : Str))])) .tup
    have p5xxx := (gl2.trans gm2).at (upd_same (a := t6) (o := .tup [.str "TooManySteps", .bl (C == ("TooManySteps" : Str))])) .tup
    have G2 := G1.trans (gt5.trans (gt6.trans (gl2.trans gm2)))
    have phn : (upd (upd (upd (upd B1 t5 (HO.tup [.str "InvalidNumber", .bl (C == ("InvalidNumber" : Str))])) t6 (HO.tup [.str "TooManySteps", .bl (C == ("TooManySteps" : Str))])) l2 (HO.lst [.ref t5, .ref t6])) m2 (HO.lst ([.ref t1, .ref t2, .ref t3, .ref t4] ++ [.ref t5, .ref t6]))) m2 = some (HO.lst [.ref t1, .ref t2, .ref t3, .ref t4, .ref t5, .ref t6]) := upd_same
    generalize upd (upd (upd (upd B1 t5 (HO.tup [.str "InvalidNumber", .bl (C == ("InvalidNumber" : Str))])) t6 (HO.tup [.str "TooManySteps", .bl (C == ("TooManySteps" : Str))])) l2 (HO.lst [.ref t5, .ref t6])) m2 (HO.lst ([.ref t1, .ref t2, .ref t3, .ref t4] ++ [.ref t5, .ref t6])) = B2 at p0xxx p1xxx p2xxx p3xxx p4xxx p5xxx G2 phn ⊢
    clear at5 at6 gm2 gl2 gt6 gt5 qh ph
    have ph := phn
    clear phn
    refine ⟨_, rfl, _, rfl, e, _, some dd, _, _, _, rfl, xa G2, xf, .own _, ke.ki ("InvalidText" : Str) (by decide), by show 2 ≤ sizeLine; decide, fun t7 ht7 => ?_⟩
    have gt7 := Gr.new (T := Tb) (o := .tup [.str "InvalidText", .bl (C == ("InvalidText" : Str))]) ht7
    have at7 := G2.trans gt7
    refine ⟨by show 1 ≤ sizeLine; decide, fun l3 hl3 => ?_⟩
    have gl3 := Gr.new (T := Tb) (o := .lst [.ref t7]) hl3
    have qh := (gt7.trans gl3).at ph .lst
    refine ⟨m2, l3, _, _, rfl, rfl, qh, upd_same, by show 6 + 1 ≤ sizeLine; decide, fun m3 hm3 => ?_⟩
    have gm3 := Gr.new (T := Tb) (o := .lst ([.ref t1, .ref t2, .ref t3, .ref t4, .ref t5, .ref t6] ++ [.ref t7])) hm3
    have p0xxxx := (gt7.trans (gl3.trans gm3)).at p0xxx .tup
    have p1xxxx := (gt7.trans (gl3.trans gm3)).at p1xxx .tup
    have p2xxxx := (gt7.trans (gl3.trans gm3)).at p2xxx .tup
    have p3xxxx := (gt7.trans (gl3.trans gm3)).at p3xxx .tup
    have p4xxxx := (gt7.trans (gl3.trans gm3)).at p4xxx .tup
    have p5xxxx := (gt7.trans (gl3.trans gm3)).at p5xxx .tup
    have p6xxxx := (gl3.trans gm3).at (upd_same (a := t7) (o := .tup [.str "InvalidText", .bl (C == ("InvalidText" : Str))])) .tup
    have G3 := G2.trans (gt7.trans (gl3.trans gm3))
    have phn : (upd (upd (upd B2 t7 (HO.tup [.str "InvalidText", .bl (C == ("InvalidText" : Str))])) l3 (HO.lst [.ref t7])) m3 (HO.lst ([.ref t1, .ref t2, .ref t3, .ref t4, .ref t5, .ref t6] ++ [.ref t7]))) m3 = some (HO.lst [.ref t1, .ref t2, .ref t3, .ref t4, .ref t5, .ref t6, .ref t7]) := upd_same
    generalize upd (upd (upd B2 t7 (HO.tup [.str "InvalidText", .bl (C == ("InvalidText" : Str))])) l3 (HO.lst [.ref t7])) m3 (HO.lst ([.ref t1, .ref t2, .ref t3, .ref t4, .ref t5, .ref t6] ++ [.ref t7])) = B3 at p0xxxx p1xxxx p2xxxx p3xxxx p4xxxx p5xxxx p6xxxx G3 phn ⊢
    clear at7 gm3 gl3 gt7 qh ph
    have ph := phn
    clear phn
    have rows : Paired (fun (v : V) (D : Str) => ∃ t, v = .ref t ∧ B3 t = some (.tup [.str D, .bl (C == D)])) [.ref t1, .ref t2, .ref t3, .ref t4, .ref t5, .ref t6, .ref t7] seven :=
      .cons ⟨_, rfl, p0xxxx⟩ (.cons ⟨_, rfl, p1xxxx⟩ (.cons ⟨_, rfl, p2xxxx⟩ (.cons ⟨_, rfl, p3xxxx⟩ (.cons ⟨_, rfl, p4xxxx⟩ (.cons ⟨_, rfl, p5xxxx⟩ (.cons ⟨_, rfl, p6xxxx⟩ .nil))))))
    have lrows : [V.ref t1, .ref t2, .ref t3, .ref t4, .ref t5, .ref t6, .ref t7].length = 7 := rfl
    generalize [V.ref t1, .ref t2, .ref t3, .ref t4, .ref t5, .ref t6, .ref t7] = xs at rows ph lrows
    refine ⟨_, rfl, m3, rfl, ⟨_, SqL.of ph⟩, fun D hD => lcT_list (xs := xs) (fun i H' => Gr Tb B3 H' ∧ H' D = some (.lst (((seven.take i).filter (fun D => C == D)).map V.str))) ⟨Gr.new hD, upd_same⟩ (fun i H' h => SqL.of (h.1.at ph .lst)) (fun i H' h => (hx.gr (G3.trans h.1)).held) ?_ ?_⟩
    · rintro i x H' hxi ⟨g, hDl⟩
      obtain ⟨E1, hE, t, rfl, ht⟩ := Paired.at rows hxi
      have hi := (List.getElem?_eq_some_iff.mp hE).1
      refine ⟨(hx.gr (G3.trans g)).held, t, _, rfl, SqT.of (g.at ht .tup), rfl, _, _, rfl, _, _, rfl, rfl, rfl, _, rfl, _, rfl, ?_⟩
      have htk : (seven.take (i + 1)).filter (fun D => C == D) = (seven.take i).filter (fun D => C == D) ++ if (C == E1) = true then [E1] else [] := by
        rw [take_snoc hE, List.filter_append]
        congr 1
        rw [List.filter_cons]
        rfl
      cases hb : (C == E1) with
      | true =>
        rw [hb, if_pos rfl] at htk
        refine iteTb rfl ⟨_, rfl, _, hDl, ?_, ?_⟩
        · have h7 : seven.length = 7 := rfl
          have := List.length_filter_le (fun D => C == D) (seven.take i)
          rw [List.length_take] at this
          rw [List.length_map, sizeLine_eq]
          omega
        · refine ⟨g.mut (Nw.of hD) hDl .lst, ?_⟩
          rw [upd_same, htk, List.map_append]
          rfl
      | false =>
        rw [hb, if_neg (by decide), List.append_nil] at htk
        refine iteFb rfl ⟨g, ?_⟩
        rw [htk]
        exact hDl
    · rintro H' ⟨g, hDl⟩
      rw [lrows, show seven.take 7 = seven from rfl, seven_one hC] at hDl
      have G4 := G3.trans g
      refine ⟨_, rfl, _, rfl, e, _, dd, _, _, rfl, ke.xb.xf, ke.xb.nv, (xa G4).1, G4.ext dd _ hdd (fun _ z => by cases z), rfl, ?_⟩
      refine ⟨_, rfl, e, _, some dd, _, _, _, rfl, xa G4, xf, .own _, ke.kb, ?_⟩
      refine ⟨true, rfl, iteTb rfl ⟨_, rfl, e, _, some dd, _, _, _, rfl, xa G4, xf, .ty _, ke.kv, by show 2 ≤ sizeLine; decide, fun z hz => ?_⟩⟩
      have gz := Gr.new (T := Tb) (o := .lst [v, .bl true]) hz
      refine ⟨D, z, _, _, rfl, rfl, gz.at hDl .lst, upd_same, by show 1 + 2 ≤ sizeLine; decide, fun r hr2 => ?_⟩
      exact k r _ ((G4.trans gz).trans (Gr.new hr2)) ((G4.trans gz).nw (.of hr2)) upd_same
theorem ok_law_error {f : Addr} {fd : FuncData} (F : FnP K "_law_error" s_law_error f fd) (T : Tx K mg) : FnOk P w K mg base CX0 1 f fd ["e"] (sp_law_error Tb K) := by
  refine F.ok sc_law_error (fun vs H Q E h => ?_) (fun cdv A outer s H vs Q E hr h => ?_)
  · obtain ⟨_, _, _, rfl, _⟩ := h
    rfl
  · obtain ⟨e, C, v, rfl, hC, hx, k⟩ := h
    refine ⟨_, PSs.nox (pss_cons (ps_set (i := 1) sc_law_error.nd rfl (Or.inl rfl) (pe_lst (pa_cons (pe_tup (pa_cons pe_str (pa_cons (pe_callB (isXk (K := K) rfl) (by rfl) T.n_isinstance (by decide +kernel) (pa_cons (pv 0) (pa_cons (C8.pe_gc (v := V.ref (He.ga K "InvalidCatalogue")) (by rfl) ⟨_, T.g_InvalidCatalogue, rfl⟩) pa_nil))) pa_nil))) (pa_cons (pe_tup (pa_cons pe_str (pa_cons (pe_callB (isXk (K := K) rfl) (by rfl) T.n_isinstance (by decide +kernel) (pa_cons (pv 0) (pa_cons (C8.pe_gc (v := V.ref (He.ga K "InvalidStock")) (by rfl) ⟨_, T.g_InvalidStock, rfl⟩) pa_nil))) pa_nil))) pa_nil))))
      (pss_cons (ps_set (i := 1) sc_law_error.nd rfl (Or.inl rfl) (pe_op op_cat (pv 1) (pe_lst (pa_cons (pe_tup (pa_cons pe_str (pa_cons (pe_callB (isXk (K := K) rfl) (by rfl) T.n_isinstance (by decide +kernel) (pa_cons (pv 0) (pa_cons (C8.pe_gc (v := V.ref (He.ga K "InvalidSplits")) (by rfl) ⟨_, T.g_InvalidSplits, rfl⟩) pa_nil))) pa_nil))) (pa_cons (pe_tup (pa_cons pe_str (pa_cons (pe_callB (isXk (K := K) rfl) (by rfl) T.n_isinstance (by decide +kernel) (pa_cons (pv 0) (pa_cons (C8.pe_gc (v := V.ref (He.ga K "InvalidStep")) (by rfl) ⟨_, T.g_InvalidStep, rfl⟩) pa_nil))) pa_nil))) pa_nil)))))
      (pss_cons (ps_set (i := 1) sc_law_error.nd rfl (Or.inl rfl) (pe_op op_cat (pv 1) (pe_lst (pa_cons (pe_tup (pa_cons pe_str (pa_cons (pe_callB (isXk (K := K) rfl) (by rfl) T.n_isinstance (by decide +kernel) (pa_cons (pv 0) (pa_cons (C8.pe_gc (v := V.ref (He.ga K "InvalidNumber")) (by rfl) ⟨_, T.g_InvalidNumber, rfl⟩) pa_nil))) pa_nil))) (pa_cons (pe_tup (pa_cons pe_str (pa_cons (pe_callB (isXk (K := K) rfl) (by rfl) T.n_isinstance (by decide +kernel) (pa_cons (pv 0) (pa_cons (C8.pe_gc (v := V.ref (He.ga K "TooManySteps")) (by rfl) ⟨_, T.g_TooManySteps, rfl⟩) pa_nil))) pa_nil))) pa_nil)))))
      (pss_cons (ps_set (i := 1) sc_law_error.nd rfl (Or.inl rfl) (pe_op op_cat (pv 1) (pe_lst (pa_cons (pe_tup (pa_cons pe_str (pa_cons (pe_callB (isXk (K := K) rfl) (by rfl) T.n_isinstance (by decide +kernel) (pa_cons (pv 0) (pa_cons (C8.pe_gc (v := V.ref (He.ga K "InvalidText")) (by rfl) ⟨_, T.g_InvalidText, rfl⟩) pa_nil))) pa_nil))) pa_nil))))
      (pss_cons (ps_setLc (i := 2) (own := [("name", 3), ("is_one", 4)]) (g := (gTup K 2 (gCons (gName 3) (gCons (gName 4) gNil)))) (tt := _) rfl sc_law_error.nd rfl rfl (sw_true rfl rfl rfl (by decide +kernel)) (piL (K := K) rfl (pv 1)) (blkOk_by (N := N_law_error) (sc := (defScope s_law_error)) (by decide +kernel)) (fun _ _ _ _ _ => (pg_tup rfl (pgs_cons (pg_name (i := 3) sc_law_error.nd rfl (Or.inl rfl)) (pgs_cons (pg_name (i := 4) sc_law_error.nd rfl (Or.inl rfl)) pgs_nil)))) (fun _ _ _ _ _ => (pts_one (pt_val (pv 4)))) (fun _ _ _ _ _ => (pv 3)))
      (pss_one (ps_ret (pe_op op_cat (pv 2) (pe_lst (pa_cons (peXv (K := K) rfl (pv 0)) (pa_cons (pe_and (pe_callB (isXk (K := K) rfl) (by rfl) T.n_isinstance (by decide +kernel) (pa_cons (pv 0) (pa_cons (C8.pe_gc (v := V.ref (He.ga K "StoreError")) (by rfl) ⟨_, T.g_StoreError, rfl⟩) pa_nil))) (pe_one (pe_callB (isXk (K := K) rfl) (by rfl) T.n_isinstance (by decide +kernel) (pa_cons (pv 0) (pa_cons (pe_bltn (v := V.ty "ValueError") (u := Value.type "ValueError") (by rfl) T.n_ValueError (by decide +kernel) (by exact rfl)) pa_nil))))) pa_nil))))))))))), ?_⟩
    have ke := kiAll_ok T.ke hC
    obtain ⟨dd, he, hdd⟩ := id hx
    have xa : ∀ {H' : Hp}, Gr Tb H H' → ExAt H' e (He.ga K C) (some dd) := fun g => ⟨g.ext e _ he exT_ntb, .inr ⟨dd, _, rfl, g.ext dd _ hdd (fun _ z => by cases z)⟩⟩
    have xf := ke.xb.is
    have g0 := Gr.refl (T := Tb) H
    refine ⟨_, rfl, e, _, some dd, _, _, _, rfl, xa g0, xf, .own _, ke.ki ("InvalidCatalogue" : Str) (by decide), by show 2 ≤ sizeLine; decide, fun t1 ht1 => ?_⟩
    have gt1 := Gr.new (T := Tb) (o := .tup [.str "InvalidCatalogue", .bl (C == ("InvalidCatalogue" : Str))]) ht1
    have at1 := g0.trans gt1
    refine ⟨_, rfl, e, _, some dd, _, _, _, rfl, xa at1, xf, .own _, ke.ki ("InvalidStock" : Str) (by decide), by show 2 ≤ sizeLine; decide, fun t2 ht2 => ?_⟩
    have gt2 := Gr.new (T := Tb) (o := .tup [.str "InvalidStock", .bl (C == ("InvalidStock" : Str))]) ht2
    have at2 := at1.trans gt2
    refine ⟨by show 2 ≤ sizeLine; decide, fun l0 hl0 => ?_⟩
    have gl0 := Gr.new (T := Tb) (o := .lst [.ref t1, .ref t2]) hl0
    have p0x := (gt2.trans gl0).at (upd_same (a := t1) (o := .tup [.str "InvalidCatalogue", .bl (C == ("InvalidCatalogue" : Str))])) .tup
    have p1x := gl0.at (upd_same (a := t2) (o := .tup [.str "InvalidStock", .bl (C == ("InvalidStock" : Str))])) .tup
    have G0 := g0.trans (gt1.trans (gt2.trans gl0))
    have phn : (upd (upd (upd H t1 (HO.tup [.str "InvalidCatalogue", .bl (C == ("InvalidCatalogue" : Str))])) t2 (HO.tup [.str "InvalidStock", .bl (C == ("InvalidStock" : Str))])) l0 (HO.lst [.ref t1, .ref t2])) l0 = some (HO.lst [.ref t1, .ref t2]) := upd_same
    generalize upd (upd (upd H t1 (HO.tup [.str "InvalidCatalogue", .bl (C == ("InvalidCatalogue" : Str))])) t2 (HO.tup [.str "InvalidStock", .bl (C == ("InvalidStock" : Str))])) l0 (HO.lst [.ref t1, .ref t2]) = B0 at p0x p1x G0 phn ⊢
    clear at1 at2 gl0 gt2 gt1
    have ph := phn
    clear phn
    refine ⟨_, rfl, _, rfl, e, _, some dd, _, _, _, rfl, xa G0, xf, .own _, ke.ki ("InvalidSplits" : Str) (by decide), by show 2 ≤ sizeLine; decide, fun t3 ht3 => ?_⟩
    have gt3 := Gr.new (T := Tb) (o := .tup [.str "InvalidSplits", .bl (C == ("InvalidSplits" : Str))]) ht3
    have at3 := G0.trans gt3
    refine ⟨_, rfl, e, _, some dd, _, _, _, rfl, xa at3, xf, .own _, ke.ki ("InvalidStep" : Str) (by decide), by show 2 ≤ sizeLine; decide, fun t4 ht4 => ?_⟩
    have gt4 := Gr.new (T := Tb) (o := .tup [.str "InvalidStep", .bl (C == ("InvalidStep" : Str))]) ht4
    have at4 := at3.trans gt4
    refine ⟨by show 2 ≤ sizeLine; decide, fun l1 hl1 => ?_⟩
    have gl1 := Gr.new (T := Tb) (o := .lst [.ref t3, .ref t4]) hl1
    have qh := (gt3.trans (gt4.trans gl1)).at ph .lst
    refine ⟨l0, l1, _, _, rfl, rfl, qh, upd_same, by show 2 + 2 ≤ sizeLine; decide, fun m1 hm1 => ?_⟩
    have gm1 := Gr.new (T := Tb) (o := .lst ([.ref t1, .ref t2] ++ [.ref t3, .ref t4])) hm1
    have p0xx := (gt3.trans (gt4.trans (gl1.trans gm1))).at p0x .tup
    have p1xx := (gt3.trans (gt4.trans (gl1.trans gm1))).at p1x .tup
    have p2xx := (gt4.trans (gl1.trans gm1)).at (upd_same (a := t3) (o := .tup [.str "InvalidSplits", .bl (C == ("InvalidSplits" : Str))])) .tup
    have p3xx := (gl1.trans gm1).at (upd_same (a := t4) (o := .tup [.str "InvalidStep", .bl (C == ("InvalidStep" : Str))])) .tup
    have G1 := G0.trans (gt3.trans (gt4.trans (gl1.trans gm1)))
    have phn : (upd (upd (upd (upd B0 t3 (HO.tup [.str "InvalidSplits", .bl (C == ("InvalidSplits" : Str))])) t4 (HO.tup [.str "InvalidStep", .bl (C == ("InvalidStep" : Str))])) l1 (HO.lst [.ref t3, .ref t4])) m1 (HO.lst ([.ref t1, .ref t2] ++ [.ref t3, .ref t4]))) m1 = some (HO.lst [.ref t1, .ref t2, .ref t3, .ref t4]) := upd_same
    generalize upd (upd (upd (upd B0 t3 (HO.tup [.str "InvalidSplits", .bl (C == ("InvalidSplits" : Str))])) t4 (HO.tup [.str "InvalidStep", .bl (C == ("InvalidStep" : Str))])) l1 (HO.lst [.ref t3, .ref t4])) m1 (HO.lst ([.ref t1, .ref t2] ++ [.ref t3, .ref t4])) = B1 at p0xx p1xx p2xx p3xx G1 phn ⊢
    clear at3 at4 gm1 gl1 gt4 gt3 qh ph
    have ph := phn
    clear phn
    refine ⟨_, rfl, _, rfl, e, _, some dd, _, _, _, rfl, xa G1, xf, .own _, ke.ki ("InvalidNumber" : Str) (by decide), by show 2 ≤ sizeLine; decide, fun t5 ht5 => ?_⟩
    have gt5 := Gr.new (T := Tb) (o := .tup [.str "InvalidNumber", .bl (C == ("InvalidNumber" : Str))]) ht5
    have at5 := G1.trans gt5
    refine ⟨_, rfl, e, _, some dd, _, _, _, rfl, xa at5, xf, .own _, ke.ki ("TooManySteps" : Str) (by decide), by show 2 ≤ sizeLine; decide, fun t6 ht6 => ?_⟩
    have gt6 := Gr.new (T := Tb) (o := .tup [.str "TooManySteps", .bl (C == ("TooManySteps" : Str))]) ht6
    have at6 := at5.trans gt6
    refine ⟨by show 2 ≤ sizeLine; decide, fun l2 hl2 => ?_⟩
    have gl2 := Gr.new (T := Tb) (o := .lst [.ref t5, .ref t6]) hl2
    have qh := (gt5.trans (gt6.trans gl2)).at ph .lst
    refine ⟨m1, l2, _, _, rfl, rfl, qh, upd_same, by show 4 + 2 ≤ sizeLine; decide, fun m2 hm2 => ?_⟩
    have gm2 := Gr.new (T := Tb) (o := .lst ([.ref t1, .ref t2, .ref t3, .ref t4] ++ [.ref t5, .ref t6])) hm2
    have p0xxx := (gt5.trans (gt6.trans (gl2.trans gm2))).at p0xx .tup
    have p1xxx := (gt5.trans (gt6.trans (gl2.trans gm2))).at p1xx .tup
    have p2xxx := (gt5.trans (gt6.trans (gl2.trans gm2))).at p2xx .tup
    have p3xxx := (gt5.trans (gt6.trans (gl2.trans gm2))).at p3xx .tup
    have p4xxx := (gt6.trans (gl2.trans gm2)).at (upd_same (a := t5) (o := .tup [.str "InvalidNumber", .bl (C == ("InvalidNumber" : Str))])) .tup
    have p5xxx := (gl2.trans gm2).at (upd_same (a := t6) (o := .tup [.str "TooManySteps", .bl (C == ("TooManySteps" : Str))])) .tup
    have G2 := G1.trans (gt5.trans (gt6.trans (gl2.trans gm2)))
    have phn : (upd (upd (upd (upd B1 t5 (HO.tup [.str "InvalidNumber", .bl (C == ("InvalidNumber" : Str))])) t6 (HO.tup [.str "TooManySteps", .bl (C == ("TooManySteps" : Str))])) l2 (HO.lst [.ref t5, .ref t6])) m2 (HO.lst ([.ref t1, .ref t2, .ref t3, .ref t4] ++ [.ref t5, .ref t6]))) m2 = some (HO.lst [.ref t1, .ref t2, .ref t3, .ref t4, .ref t5, .ref t6]) := upd_same
    generalize upd (upd (upd (upd B1 t5 (HO.tup [.str "InvalidNumber", .bl (C == ("InvalidNumber" : Str))])) t6 (HO.tup [.str "TooManySteps", .bl (C == ("TooManySteps" : Str))])) l2 (HO.lst [.ref t5, .ref t6])) m2 (HO.lst ([.ref t1, .ref t2, .ref t3, .ref t4] ++ [.ref t5, .ref t6])) = B2 at p0xxx p1xxx p2xxx p3xxx p4xxx p5xxx G2 phn ⊢
    clear at5 at6 gm2 gl2 gt6 gt5 qh ph
    have ph := phn
    clear phn
    refine ⟨_, rfl, _, rfl, e, _, some dd, _, _, _, rfl, xa G2, xf, .own _, ke.ki ("InvalidText" : Str) (by decide), by show 2 ≤ sizeLine; decide, fun t7 ht7 => ?_⟩
    have gt7 := Gr.new (T := Tb) (o := .tup [.str "InvalidText", .bl (C == ("InvalidText" : Str))]) ht7
    have at7 := G2.trans gt7
    refine ⟨by show 1 ≤ sizeLine; decide, fun l3 hl3 => ?_⟩
    have gl3 := Gr.new (T := Tb) (o := .lst [.ref t7]) hl3
    have qh := (gt7.trans gl3).at ph .lst
    refine ⟨m2, l3, _, _, rfl, rfl, qh, upd_same, by show 6 + 1 ≤ sizeLine; decide, fun m3 hm3 => ?_⟩
    have gm3 := Gr.new (T := Tb) (o := .lst ([.ref t1, .ref t2, .ref t3, .ref t4, .ref t5, .ref t6] ++ [.ref t7])) hm3
    have p0xxxx := (gt7.trans (gl3.trans gm3)).at p0xxx .tup
    have p1xxxx := (gt7.trans (gl3.trans gm3)).at p1xxx .tup
    have p2xxxx := (gt7.trans (gl3.trans gm3)).at p2xxx .tup
    have p3xxxx := (gt7.trans (gl3.trans gm3)).at p3xxx .tup
    have p4xxxx := (gt7.trans (gl3.trans gm3)).at p4xxx .tup
    have p5xxxx := (gt7.trans (gl3.trans gm3)).at p5xxx .tup
    have p6xxxx := (gl3.trans gm3).at (upd_same (a := t7) (o := .tup [.str "InvalidText", .bl (C == ("InvalidText" : Str))])) .tup
    have G3 := G2.trans (gt7.trans (gl3.trans gm3))
    have phn : (upd (upd (upd B2 t7 (HO.tup [.str "InvalidText", .bl (C == ("InvalidText" : Str))])) l3 (HO.lst [.ref t7])) m3 (HO.lst ([.ref t1, .ref t2, .ref t3, .ref t4, .ref t5, .ref t6] ++ [.ref t7]))) m3 = some (HO.lst [.ref t1, .ref t2, .ref t3, .ref t4, .ref t5, .ref t6, .ref t7]) := upd_same
    generalize upd (upd (upd B2 t7 (HO.tup [.str "InvalidText", .bl (C == ("InvalidText" : Str))])) l3 (HO.lst [.ref t7])) m3 (HO.lst ([.ref t1, .ref t2, .ref t3, .ref t4, .ref t5, .ref t6] ++ [.ref t7])) = B3 at p0xxxx p1xxxx p2xxxx p3xxxx p4xxxx p5xxxx p6xxxx G3 phn ⊢
    clear at7 gm3 gl3 gt7 qh ph
    have ph := phn
    clear phn
    have rows : Paired (fun (v : V) (D : Str) => ∃ t, v = .ref t ∧ B3 t = some (.tup [.str D, .bl (C == D)])) [.ref t1, .ref t2, .ref t3, .ref t4, .ref t5, .ref t6, .ref t7] seven :=
      .cons ⟨_, rfl, p0xxxx⟩ (.cons ⟨_, rfl, p1xxxx⟩ (.cons ⟨_, rfl, p2xxxx⟩ (.cons ⟨_, rfl, p3xxxx⟩ (.cons ⟨_, rfl, p4xxxx⟩ (.cons ⟨_, rfl, p5xxxx⟩ (.cons ⟨_, rfl, p6xxxx⟩ .nil))))))
    have lrows : [V.ref t1, .ref t2, .ref t3, .ref t4, .ref t5, .ref t6, .ref t7].length = 7 := rfl
    generalize [V.ref t1, .ref t2, .ref t3, .ref t4, .ref t5, .ref t6, .ref t7] = xs at rows ph lrows
    refine ⟨_, rfl, m3, rfl, ⟨_, SqL.of ph⟩, fun D hD => lc_list (K := K) (a := m3) (xs := xs) (fun i H' => Gr Tb B3 H' ∧ H' D = some (.lst (((seven.take i).filter (fun D => C == D)).map V.str))) ⟨Gr.new hD, upd_same⟩ (fun i H' _ h => SqL.of (h.1.at ph .lst)) ?_ ?_⟩
    · rintro i x H' hxi ⟨g, hDl⟩
      obtain ⟨E1, hE, t, rfl, ht⟩ := Paired.at rows hxi
      have hi := (List.getElem?_eq_some_iff.mp hE).1
      refine ⟨t, _, rfl, SqT.of (g.at ht .tup), rfl, _, _, rfl, _, _, rfl, rfl, rfl, _, rfl, _, rfl, ?_⟩
      have htk : (seven.take (i + 1)).filter (fun D => C == D) = (seven.take i).filter (fun D => C == D) ++ if (C == E1) = true then [E1] else [] := by
        rw [take_snoc hE, List.filter_append]
        congr 1
        rw [List.filter_cons]
        rfl
      cases hb : (C == E1) with
      | true =>
        rw [hb, if_pos rfl] at htk
        refine iteTb rfl ⟨_, rfl, _, hDl, ?_, ?_⟩
        · have h7 : seven.length = 7 := rfl
          have := List.length_filter_le (fun D => C == D) (seven.take i)
          rw [List.length_take] at this
          rw [List.length_map, sizeLine_eq]
          omega
        · refine ⟨g.mut (Nw.of hD) hDl .lst, ?_⟩
          rw [upd_same, htk, List.map_append]
          rfl
      | false =>
        rw [hb, if_neg (by decide), List.append_nil] at htk
        refine iteFb rfl ⟨g, ?_⟩
        rw [htk]
        exact hDl
    · rintro H' ⟨g, hDl⟩
      rw [lrows, show seven.take 7 = seven from rfl, seven_one hC] at hDl
      have G4 := G3.trans g
      refine ⟨_, rfl, _, rfl, e, _, dd, _, _, rfl, ke.xb.xf, ke.xb.nv, (xa G4).1, G4.ext dd _ hdd (fun _ z => by cases z), rfl, ?_⟩
      refine ⟨_, rfl, e, _, some dd, _, _, _, rfl, xa G4, xf, .own _, ke.kb, ?_⟩
      refine ⟨true, rfl, iteTb rfl ⟨_, rfl, e, _, some dd, _, _, _, rfl, xa G4, xf, .ty _, ke.kv, by show 2 ≤ sizeLine; decide, fun z hz => ?_⟩⟩
      have gz := Gr.new (T := Tb) (o := .lst [v, .bl true]) hz
      refine ⟨D, z, _, _, rfl, rfl, gz.at hDl .lst, upd_same, by show 1 + 2 ≤ sizeLine; decide, fun r hr2 => ?_⟩
      exact k r _ ((G4.trans gz).trans (Gr.new hr2)) ((G4.trans gz).nw (.of hr2)) upd_same
end
end Sk
namespace Sk
open PySem PySem.Spec PyProof.Rows L2
/-- a text of at most so many signs -/
def TxtOk (m : Nat) (x : Str) : Prop := x.length ≤ m ∧ ∀ c ∈ x.cps.toList, c < 0x110000
theorem TxtOk.mono {m m' : Nat} {x : Str} (h : TxtOk m x) (l : m ≤ m') : TxtOk m' x := ⟨Nat.le_trans h.1 l, h.2⟩
theorem TxtOk.app {m k : Nat} {x y : Str} (h : TxtOk m x) (h2 : TxtOk k y) : TxtOk (m + k) (x ++ y) := by
  refine ⟨?_, fun c hc => ?_⟩
  · have := h.1
    have := h2.1
    rw [strLen_append]
    omega
  · have e : (x ++ y).cps.toList = x.cps.toList ++ y.cps.toList := by
      show (x.cps ++ y.cps).toList = _
      rw [Array.toList_append]
    rw [e] at hc
    rcases List.mem_append.mp hc with hc | hc
    · exact h.2 c hc
    · exact h2.2 c hc
theorem txtOk {m : Nat} {x : Str} (h1 : x.length ≤ m) (h2 : (x.cps.toList.all fun c => decide (c < 0x110000)) = true) : TxtOk m x := ⟨h1, fun c hc => of_decide_eq_true (List.all_eq_true.mp h2 c hc)⟩
/-- an entry whose texts have at most so many signs -/
structure NmE (m : Nat) (e : Ent) : Prop where
  name : TxtOk m e.name
  fewp : e.parts.length ≤ 6
  parts : ∀ q ∈ e.parts, TxtOk m q
theorem NmE.mono {m m' : Nat} {e : Ent} (h : NmE m e) (l : m ≤ m') : NmE m' e := ⟨h.name.mono l, h.fewp, fun q hq => (h.parts q hq).mono l⟩
section
variable {T : List (Addr × Str)} {p : Addr} {n : Nat} {L : List (Addr × HO)} {G H : Hp}
/-- something new is frozen -/
theorem Hs.fzNew {l : Addr} {o : HO} (s : Hs T p n L G H) (h : H l = none) (nt : NoTab o) : Same G (upd G l o) ∧ Hs T p n L (upd G l o) (upd H l o) := by
  have s1 := s.new h nt
  exact ⟨Same.upd s1.cfree, s1.freeze⟩
/-- a new entry over a list of parts that stands -/
theorem Hs.entT {t lp : Addr} {nm : Str} {w : Int} {ps : List Str} (s : Hs T p n L G H) (hl : G lp = some (.lst (ps.map V.str))) (ht : H t = none) : ∃ G', Same G G' ∧ EntAt G' (.ref t) ⟨nm, w, ps⟩ ∧ Hs T p n L G' (upd H t (.tup [.str nm, .int w, .ref lp])) := by
  obtain ⟨s1, s2⟩ := s.fzNew ht (.tup (xs := [.str nm, .int w, .ref lp]))
  exact ⟨_, s1, ⟨t, lp, rfl, upd_same, s1 _ _ hl⟩, s2⟩
end
theorem paired_set {α β : Type} {R : α → β → Prop} : ∀ {xs : List α} {ys : List β} (i : Nat) {x : α} {y : β}, Paired R xs ys → R x y → Paired R (xs.set i x) (ys.set i y)
  | _, _, _, _, _, .nil, _ => .nil
  | _, _, 0, _, _, .cons _ t, h => .cons h t
  | _, _, i + 1, _, _, .cons a t, h => .cons a (paired_set i t h)
theorem paired_erase {α β : Type} {R : α → β → Prop} : ∀ {xs : List α} {ys : List β} (i : Nat), Paired R xs ys → Paired R (xs.eraseIdx i) (ys.eraseIdx i)
  | _, _, _, .nil => .nil
  | _, _, 0, .cons _ t => t
  | _, _, i + 1, .cons a t => .cons a (paired_erase i t)
theorem paired_takeC {α β : Type} {R : α → β → Prop} : ∀ {xs : List α} {ys : List β} (n : Nat), Paired R xs ys → Paired R (xs.take n) (ys.take n)
  | _, _, 0, _ => by rw [List.take_zero, List.take_zero]; exact .nil
  | _, _, n + 1, .nil => by rw [List.take_nil, List.take_nil]; exact .nil
  | _, _, n + 1, .cons a t => by rw [List.take_succ_cons, List.take_succ_cons]; exact .cons a (paired_takeC n t)
theorem paired_dropC {α β : Type} {R : α → β → Prop} : ∀ {xs : List α} {ys : List β} (n : Nat), Paired R xs ys → Paired R (xs.drop n) (ys.drop n)
  | _, _, 0, h => h
  | _, _, n + 1, .nil => by rw [List.drop_nil, List.drop_nil]; exact .nil
  | _, _, n + 1, .cons a t => paired_dropC n t
theorem paired_appC {α β : Type} {R : α → β → Prop} : ∀ {xs : List α} {ys : List β} {zs : List α} {ws : List β}, Paired R xs ys → Paired R zs ws → Paired R (xs ++ zs) (ys ++ ws)
  | _, _, _, _, .nil, h => h
  | _, _, _, _, .cons a t, h => .cons a (paired_appC t h)
theorem mem_set_or {α : Type} : ∀ {l : List α} {i : Nat} {x y : α}, y ∈ l.set i x → y ∈ l ∨ y = x
  | [], _, _, _, h => by cases h
  | a :: l, 0, x, y, h => by
    rcases List.mem_cons.mp h with rfl | h
    · exact .inr rfl
    · exact .inl (List.mem_cons_of_mem _ h)
  | a :: l, i + 1, x, y, h => by
    rcases List.mem_cons.mp h with rfl | h
    · exact .inl (List.mem_cons_self ..)
    · exact (mem_set_or h).imp (List.mem_cons_of_mem _) id
end Sk
namespace Sk
open PySem PySem.Spec PyProof.Rows L2
abbrev s_law_spoilt : Stmt := topS 36
abbrev N_law_spoilt : List Str := ["source", "entries", "found", "spot", "other", "names", "some", "more", "choice", "name", "weight", "parts"]
theorem sc_law_spoilt : FnScope N_law_spoilt ["source", "entries"] (defScope s_law_spoilt) := ⟨rfl, rfl, rfl, by decide +kernel, rfl, by decide +kernel, by decide +kernel⟩
def sp_law_spoilt (Tb : List (Addr × Str)) (K : PySem.W.Frag) : Sp := fun vs H Q _ => ∃ (p a : Addr) (n : Nat) (L : List (Addr × HO)) (G : Hp) (xs : List V) (es : List Ent) (lm : Nat) (W : Nat), vs = [.ref p, .ref a] ∧ Hs Tb p n L G H ∧ n + 100 < 1000000000 ∧ G a = some (.lst xs) ∧ CatAt G xs es ∧ es ≠ [] ∧ es.length ≤ 30 ∧ (∀ e ∈ es, NmE lm e ∧ e.w.natAbs ≤ W) ∧ 9 ≤ lm ∧ lm ≤ 1000 ∧ 10 ^ 11 ≤ W ∧
  ∀ r H' G' ys es', Same G G' → CatAt G' ys es' → es'.length ≤ es.length + 1 → (∀ e ∈ es', NmE (lm + 1) e ∧ e.w.natAbs ≤ W + 5) → Hs Tb p (n + 100) ((r, .lst ys) :: L) G' H' → Q (.ref r) H'
theorem ixN_nat {n i : Nat} (h : i < n) : ixN n (i : Int) = some i := by
  unfold ixN
  rw [if_pos (by omega), if_pos (by omega)]
  rfl
section
variable {P : Program} {w : World} {K : PySem.W.Frag} {mg : Str → Option Value} {base : Heap} {Tb : List (Addr × Str)}
theorem ok_law_spoilt {f : Addr} {fd : FuncData} (F : FnP K "_law_spoilt" s_law_spoilt f fd) (T : Tx K mg) (G_law_draw : Fn P w K mg base "_law_draw" 1 ["source", "many"] (sp_law_draw Tb K)) : FnOk P w K mg base CX0 2 f fd ["source", "entries"] (sp_law_spoilt Tb K) := by
  refine F.ok sc_law_spoilt (fun vs H Q E h => ?_) (fun cdv A outer s H vs Q E hr h => ?_)
  · obtain ⟨_, _, _, _, _, _, _, _, _, rfl, _⟩ := h
    rfl
  · obtain ⟨p, a, n, L, G, xs, es, lm, W, rfl, hs, hn, ha, hc, hne, hl, hw, l9, lk, w11, k⟩ := h
    refine ⟨_, PSs.nox (pss_cons (ps_set (i := 2) sc_law_spoilt.nd rfl (Or.inl rfl) (pe_callTy (listOf (K := K) rfl) (by rfl) T.n_list (by decide +kernel) (pa_cons (pv 1) pa_nil)))
      (pss_cons (ps_set (i := 3) sc_law_spoilt.nd rfl (Or.inl rfl) (pe_fn G_law_draw (hr.mono (by decide)) (pa_cons (pv 0) (pa_cons (pe_callB (lenS (K := K) rfl) (by rfl) T.n_len (by decide +kernel) (pa_cons (pv 2) pa_nil)) pa_nil))))
      (pss_cons (ps_asg (pe_ix (ixL (K := K) rfl) (pv 2) (pv 3) (fun _ _ => rfl)) (pg_tup rfl (pgs_cons (pg_name (i := 9) sc_law_spoilt.nd rfl (Or.inl rfl)) (pgs_cons (pg_name (i := 10) sc_law_spoilt.nd rfl (Or.inl rfl)) (pgs_cons (pg_name (i := 11) sc_law_spoilt.nd rfl (Or.inl rfl)) pgs_nil)))))
      (pss_cons (ps_set (i := 4) sc_law_spoilt.nd rfl (Or.inl rfl) (pe_ix (ixL (K := K) rfl) (pv 2) (pe_fn G_law_draw (hr.mono (by decide)) (pa_cons (pv 0) (pa_cons (pe_callB (lenS (K := K) rfl) (by rfl) T.n_len (by decide +kernel) (pa_cons (pv 2) pa_nil)) pa_nil))) (fun _ _ => rfl)))
      (pss_cons (ps_set (i := 5) sc_law_spoilt.nd rfl (Or.inl rfl) (pe_lst (pa_cons pe_str (pa_cons pe_str (pa_cons pe_str (pa_cons pe_str (pa_cons pe_str (pa_cons (pe_op op_add_str (pv 9) pe_str) (pa_cons (pe_ix (ixT (K := K) rfl) (pv 4) pe_int (fun _ _ => rfl)) (pa_cons pe_str pa_nil))))))))))
      (pss_cons (ps_set (i := 6) sc_law_spoilt.nd rfl (Or.inl rfl) (pe_lst (pa_cons (pe_tup (pa_cons (pe_ix (ixL (K := K) rfl) (pv 5) (pe_fn G_law_draw (hr.mono (by decide)) (pa_cons (pv 0) (pa_cons pe_int pa_nil))) (fun _ _ => rfl)) (pa_cons (pv 10) (pa_cons (pv 11) pa_nil)))) (pa_cons (pe_tup (pa_cons (pv 9) (pa_cons (pe_ix (ixL (K := K) rfl) (pe_lst (pa_cons pe_int (pa_cons (pe_un un_neg pe_int) (pa_cons (pe_un un_neg (pe_op op_pow pe_int pe_int)) pa_nil)))) (pe_fn G_law_draw (hr.mono (by decide)) (pa_cons (pv 0) (pa_cons pe_int pa_nil))) (fun _ _ => rfl)) (pa_cons (pv 11) pa_nil)))) pa_nil))))
      (pss_cons (ps_set (i := 7) sc_law_spoilt.nd rfl (Or.inl rfl) (pe_ix (ixL (K := K) rfl) (pe_lst (pa_cons pe_str (pa_cons pe_str (pa_cons (pv 9) (pa_cons (pe_ix (ixT (K := K) rfl) (pv 4) pe_int (fun _ _ => rfl)) pa_nil))))) (pe_fn G_law_draw (hr.mono (by decide)) (pa_cons (pv 0) (pa_cons pe_int pa_nil))) (fun _ _ => rfl)))
      (pss_cons (ps_set (i := 6) sc_law_spoilt.nd rfl (Or.inl rfl) (pe_op op_cat (pv 6) (pe_lst (pa_cons (pe_tup (pa_cons (pv 9) (pa_cons (pv 10) (pa_cons (pe_op op_cat (pe_lst (pa_cons (pv 7) pa_nil)) (pe_slice (slL (K := K) rfl) (pv 11) po_none (po_some pe_int))) pa_nil)))) (pa_cons (pe_tup (pa_cons (pv 9) (pa_cons pe_int (pa_cons (pv 11) pa_nil)))) pa_nil)))))
      (pss_cons (ps_set (i := 8) sc_law_spoilt.nd rfl (Or.inl rfl) (pe_fn G_law_draw (hr.mono (by decide)) (pa_cons (pv 0) (pa_cons pe_int pa_nil))))
      (pss_cons (ps_if (pt_cmpR op_lt (pv 8) pe_int (nomark _)) (pss_one (ps_asg (pe_ix (ixL (K := K) rfl) (pe_op op_cat (pv 6) (pe_lst (pa_cons (pe_tup (pa_cons (pv 9) (pa_cons (pv 10) (pa_cons (pe_op op_cat (pe_slice (slL (K := K) rfl) (pv 11) po_none (po_some pe_int)) (pe_lst (pa_cons (pe_ix (ixT (K := K) rfl) (pv 4) pe_int (fun _ _ => rfl)) pa_nil))) pa_nil)))) pa_nil))) (pv 8) (fun _ _ => rfl)) (pg_sub (pv 2) (pv 3) set_list))) (pss_one (ps_if (pt_cmpR op_eq (pv 8) pe_int (nomark _)) (pss_one (ps_expr (peBm (K := K) rfl PySem.F.plainAttrs_list PySem.F.slot_list_pop PySem.F.type_list_pop mt_popAt (pv 2) (pa_cons (pv 3) pa_nil)))) (pss_one (ps_if (pt_cmpR op_eq (pv 8) pe_int (nomark _)) (pss_one (ps_expr (peBm (K := K) rfl PySem.F.plainAttrs_list PySem.F.slot_list_insert PySem.F.type_list_insert mt_insert (pv 2) (pa_cons (pv 3) (pa_cons (pe_tup (pa_cons (pe_ix (ixT (K := K) rfl) (pv 4) pe_int (fun _ _ => rfl)) (pa_cons (pe_op op_add (pe_ix (ixT (K := K) rfl) (pv 4) pe_int (fun _ _ => rfl)) (pe_ix (ixL (K := K) rfl) (pe_lst (pa_cons pe_int (pa_cons pe_int (pa_cons pe_int (pa_cons (pe_un un_neg pe_int) pa_nil))))) (pe_fn G_law_draw (hr.mono (by decide)) (pa_cons (pv 0) (pa_cons pe_int pa_nil))) (fun _ _ => rfl))) (pa_cons (pe_ix (ixT (K := K) rfl) (pv 4) pe_int (fun _ _ => rfl)) pa_nil)))) pa_nil))))) (pss_one (ps_asg (pe_tup (pa_cons (pe_ix (ixL (K := K) rfl) (pv 2) pe_int (fun _ _ => rfl)) (pa_cons (pe_ix (ixL (K := K) rfl) (pv 2) (pv 3) (fun _ _ => rfl)) pa_nil))) (pg_tup rfl (pgs_cons (pg_sub (pv 2) (pv 3) set_list) (pgs_cons (pg_sub (pv 2) pe_int set_list) pgs_nil))))))))))
      (pss_one (ps_ret (pv 2))))))))))))), ?_⟩
    have hxl := Paired.len hc
    have hpos : 0 < es.length := List.length_pos_iff.mpr hne
    refine ⟨_, rfl, a, _, rfl, .inl (SqL.of (hs.fzat ha)), fun F hF => ?_⟩
    have h1 := hs.new hF (.lst (xs := xs))
    refine ⟨_, rfl, _, rfl, F, _, rfl, .inl (SqL.of (h1.get (i := 0) rfl)), p, n, _, G, (xs.length : Int), rfl, h1, by omega, by omega, by show (xs.length : Int) < 2 ^ 200; omega, fun sp H2 s0 s1 h2 => ?_⟩
    obtain ⟨sp, rfl⟩ := Int.eq_ofNat_of_zero_le s0
    have hsp : sp < xs.length := by omega
    have hx : xs[sp]? = some xs[sp] := List.getElem?_eq_getElem hsp
    obtain ⟨e, he, hev⟩ := Paired.at hc hx
    have hem := List.mem_of_getElem? he
    obtain ⟨t, lp, ex, ht, hlp⟩ := id hev
    refine ⟨_, rfl, _, rfl, F, xs, _, .ref t, rfl, rfl, SqL.of (h2.get (i := 0) rfl), by rw [← ex]; exact atI_nat hx, gtup3 (h2.fzat ht) ?_⟩
    refine ⟨_, rfl, _, rfl, _, rfl, F, _, rfl, .inl (SqL.of (h2.get (i := 0) rfl)), p, _, _, G, (xs.length : Int), rfl, h2, by omega, by omega, by show (xs.length : Int) < 2 ^ 200; omega, fun ot H3 o0 o1 h3 => ?_⟩
    obtain ⟨ot, rfl⟩ := Int.eq_ofNat_of_zero_le o0
    have hot : ot < xs.length := by omega
    have hx2 : xs[ot]? = some xs[ot] := List.getElem?_eq_getElem hot
    obtain ⟨e2, he2, hev2⟩ := Paired.at hc hx2
    have hem2 := List.mem_of_getElem? he2
    obtain ⟨t2, lp2, ex2, ht2, hlp2⟩ := id hev2
    refine ⟨F, xs, _, .ref t2, rfl, rfl, SqL.of (h3.get (i := 0) rfl), by rw [← ex2]; exact atI_nat hx2, ?_⟩
    obtain ⟨ne1, we1⟩ := hw e hem
    obtain ⟨ne2, we2⟩ := hw e2 hem2
    -- names
    refine ⟨_, rfl, _, _, rfl, rfl, ?_, _, rfl, t2, _, 0, _, rfl, rfl, SqT.of (h3.fzat ht2), atI_nat (j := 0) rfl, by show 8 ≤ sizeLine; decide, fun l1 hl1 => ?_⟩
    · have := ne1.name.1
      have e1 : ("-" : Str).length = 1 := rfl
      rw [sizeLine_eq]
      omega
    have h4 := h3.new hl1 (.lst (xs := [.str "", .str "A", .str "abcdefghi", .str "a1", .str "a b", .str (e.name ++ "-"), .str e2.name, .str "new"]))
    refine ⟨_, rfl, _, rfl, p, _, _, G, 8, rfl, h4, by omega, by decide, by decide, fun d3 H5 d30 d31 h5 => ?_⟩
    obtain ⟨nm, hnm, enm⟩ := pick_at (xs := [("" : Str), "A", "abcdefghi", "a1", "a b", e.name ++ "-", e2.name, "new"].map V.str) d30 d31
    obtain ⟨nm, hnm2, rfl⟩ := List.mem_map.mp hnm
    have nok : TxtOk (lm + 1) nm := by
      simp only [List.mem_cons, List.not_mem_nil, or_false] at hnm2
      have l0 : ∀ x : Str, TxtOk 9 x → TxtOk (lm + 1) x := fun x h => h.mono (by omega)
      rcases hnm2 with rfl | rfl | rfl | rfl | rfl | rfl | rfl | rfl
      · exact l0 _ (txtOk (by decide) (by decide))
      · exact l0 _ (txtOk (by decide) (by decide))
      · exact l0 _ (txtOk (by decide) (by decide))
      · exact l0 _ (txtOk (by decide) (by decide))
      · exact l0 _ (txtOk (by decide) (by decide))
      · exact ne1.name.app (txtOk (by decide) (by decide))
      · exact ne2.name.mono (by omega)
      · exact l0 _ (txtOk (by decide) (by decide))
    refine ⟨l1, _, d3, .str nm, rfl, rfl, SqL.of (h5.get (i := 0) rfl), enm, _, rfl, _, rfl, by show 3 ≤ sizeLine; decide, fun t3 ht3 => ?_⟩
    obtain ⟨G1, sg1, en1, h6⟩ := h5.drop1.entT (nm := nm) (w := e.w) hlp ht3
    -- a weight
    refine ⟨_, rfl, _, rfl, _, _, rfl, rfl, ⟨by decide, by decide, by decide⟩, _, rfl, by show 3 ≤ sizeLine; decide, fun l2 hl2 => ?_⟩
    have h7 := h6.new hl2 (.lst (xs := [.int 0, .int (-1), .int (-(10 ^ Int.toNat 11))]))
    refine ⟨_, rfl, p, _, _, G1, 3, rfl, h7, by omega, by decide, by decide, fun d4 H7 d40 d41 h8 => ?_⟩
    obtain ⟨w4, ew4, bw4⟩ := pick_int (P := fun i => i.natAbs ≤ 10 ^ 11) [0, -1, -(10 ^ Int.toNat 11)] rfl d40 d41 (by decide)
    refine ⟨l2, _, d4, .int w4, rfl, rfl, SqL.of (h8.get (i := 0) rfl), ew4, _, rfl, by show 3 ≤ sizeLine; decide, fun t4 ht4 => ?_⟩
    obtain ⟨G2, sg2, en2, h9⟩ := h8.drop1.entT (nm := e.name) (w := w4) (sg1 _ _ hlp) ht4
    refine ⟨by show 2 ≤ sizeLine; decide, fun l3 hl3 => ?_⟩
    obtain ⟨sg3, h10⟩ := h9.fzNew hl3 (.lst (xs := [.ref t3, .ref t4]))
    have s03 : Same G (upd G2 l3 (.lst [.ref t3, .ref t4])) := fun b u z => sg3 b u (sg2 b u (sg1 b u z))
    have en1 := en1.mono (fun b u z => sg3 b u (sg2 b u z))
    have en2 := en2.mono sg3
    have hG3 : upd G2 l3 (.lst [.ref t3, .ref t4]) l3 = some (.lst [.ref t3, .ref t4]) := upd_same
    generalize upd G2 l3 (.lst [.ref t3, .ref t4]) = G3 at sg3 h10 s03 en1 en2 hG3
    clear sg1 sg2 sg3 h4 h5 h6 h7 h8 h9
    -- more
    refine ⟨_, rfl, _, rfl, t2, _, 0, _, rfl, rfl, SqT.of (h10.fzat (s03 _ _ ht2)), atI_nat (j := 0) rfl, by show 4 ≤ sizeLine; decide, fun l4 hl4 => ?_⟩
    have h11 := h10.new hl4 (.lst (xs := [.str "new", .str "", .str e.name, .str e2.name]))
    refine ⟨_, rfl, p, _, _, G3, 4, rfl, h11, by omega, by decide, by decide, fun d6 H11 d60 d61 h12 => ?_⟩
    obtain ⟨mo, hmo, emo⟩ := pick_at (xs := [("new" : Str), "", e.name, e2.name].map V.str) d60 d61
    obtain ⟨mo, hmo2, rfl⟩ := List.mem_map.mp hmo
    have mok : TxtOk (lm + 1) mo := by
      simp only [List.mem_cons, List.not_mem_nil, or_false] at hmo2
      have l0 : ∀ x : Str, TxtOk 9 x → TxtOk (lm + 1) x := fun x h => h.mono (by omega)
      rcases hmo2 with rfl | rfl | rfl | rfl
      · exact l0 _ (txtOk (by decide) (by decide))
      · exact l0 _ (txtOk (by decide) (by decide))
      · exact ne1.name.mono (by omega)
      · exact ne2.name.mono (by omega)
    refine ⟨l4, _, d6, .str mo, rfl, rfl, SqL.of (h12.get (i := 0) rfl), emo, ?_⟩
    have h13 := h12.drop1
    clear h11 h12
    -- [more] + parts[:5]
    refine ⟨_, rfl, _, rfl, _, rfl, _, rfl, by show 1 ≤ sizeLine; decide, fun l5 hl5 => ?_⟩
    have h14 := h13.new hl5 (.lst (xs := [.str mo]))
    refine ⟨_, rfl, 5, rfl, lp, _, rfl, SqL.of (h14.fzat (s03 _ _ hlp)), fun l6 hl6 => ?_⟩
    have h15 := h14.new hl6 (.lst (xs := cutV (e.parts.map V.str) none (some 5)))
    have ec5 : cutV (e.parts.map V.str) none (some 5) = (e.parts.take 5).map V.str := by
      rw [cut_take (by decide), List.map_take]
      rfl
    generalize cutV (e.parts.map V.str) none (some 5) = cc at ec5 h15 ⊢
    subst ec5
    have lt5 : (e.parts.take 5).length ≤ 5 := by rw [List.length_take]; omega
    refine ⟨l5, l6, _, _, rfl, rfl, h15.get (i := 1) rfl, h15.get (i := 0) rfl, by rw [List.length_map, sizeLine_eq]; show 1 + _ ≤ _; omega, fun l7 hl7 => ?_⟩
    obtain ⟨sg4, h16⟩ := h15.drop1.drop1.fzNew hl7 (.lst (xs := [V.str mo] ++ (e.parts.take 5).map V.str))
    have hG7 : upd G3 l7 (.lst ([V.str mo] ++ (e.parts.take 5).map V.str)) l7 = some (.lst ((mo :: e.parts.take 5).map V.str)) := upd_same
    generalize upd G3 l7 (.lst ([V.str mo] ++ (e.parts.take 5).map V.str)) = G4 at sg4 h16 hG7
    refine ⟨by show 3 ≤ sizeLine; decide, fun t5 ht5 => ?_⟩
    obtain ⟨G5, sg5, en3, h17⟩ := h16.entT (nm := e.name) (w := e.w) hG7 ht5
    have s05 : Same G G5 := fun b u z => sg5 b u (sg4 b u (s03 b u z))
    refine ⟨_, rfl, _, rfl, by show 3 ≤ sizeLine; decide, fun t6 ht6 => ?_⟩
    obtain ⟨G6, sg6, en4, h18⟩ := h17.entT (nm := e.name) (w := 1) (s05 _ _ hlp) ht6
    have s36 : Same G3 G6 := fun b u z => sg6 b u (sg5 b u (sg4 b u z))
    have s06 : Same G G6 := fun b u z => sg6 b u (s05 b u z)
    refine ⟨by show 2 ≤ sizeLine; decide, fun l8 hl8 => ?_⟩
    have h19 := h18.new hl8 (.lst (xs := [.ref t5, .ref t6]))
    refine ⟨l3, l8, _, _, rfl, rfl, h19.fzat (s36 _ _ hG3), h19.get (i := 0) rfl, by show 2 + 2 ≤ sizeLine; decide, fun l9 hl9 => ?_⟩
    have h20 := h19.drop1.new hl9 (.lst (xs := [V.ref t3, .ref t4] ++ [.ref t5, .ref t6]))
    have cS : CatAt G6 ([V.ref t3, .ref t4] ++ [.ref t5, .ref t6]) [⟨nm, e.w, e.parts⟩, ⟨e.name, w4, e.parts⟩, ⟨e.name, e.w, mo :: e.parts.take 5⟩, ⟨e.name, 1, e.parts⟩] := .cons (en1.mono s36) (.cons (en2.mono s36) (.cons (en3.mono sg6) (.cons en4 .nil)))
    have sm2 : ∀ x ∈ [(⟨nm, e.w, e.parts⟩ : Ent), ⟨e.name, w4, e.parts⟩, ⟨e.name, e.w, mo :: e.parts.take 5⟩, ⟨e.name, 1, e.parts⟩], NmE (lm + 1) x ∧ x.w.natAbs ≤ W + 5 := by
      intro x hx
      simp only [List.mem_cons, List.not_mem_nil, or_false] at hx
      rcases hx with rfl | rfl | rfl | rfl
      · exact ⟨⟨nok, ne1.fewp, (ne1.mono (by omega : lm ≤ lm + 1)).parts⟩, by show e.w.natAbs ≤ _; omega⟩
      · exact ⟨⟨ne1.name.mono (by omega), ne1.fewp, (ne1.mono (by omega : lm ≤ lm + 1)).parts⟩, by show w4.natAbs ≤ _; omega⟩
      · refine ⟨⟨ne1.name.mono (by omega), by show (e.parts.take 5).length + 1 ≤ 6; omega, fun q hq => ?_⟩, by show e.w.natAbs ≤ _; omega⟩
        rcases List.mem_cons.mp hq with rfl | hq
        · exact mok
        · exact (ne1.parts q (List.mem_of_mem_take hq)).mono (by omega)
      · exact ⟨⟨ne1.name.mono (by omega), ne1.fewp, (ne1.mono (by omega : lm ≤ lm + 1)).parts⟩, by show (1 : Int).natAbs ≤ _; omega⟩
    clear en1 en2 en3 en4 h19 h18 h17 h16 h15 h14 h13 h10 hG7 hG3 s36 s03 s05 sg4 sg5 sg6
    refine ⟨_, rfl, p, _, _, G6, 8, rfl, h20, by omega, by decide, by decide, fun ch H20 ch0 ch1 h21 => ?_⟩
    obtain ⟨ch, rfl⟩ := Int.eq_ofNat_of_zero_le ch0
    have old : ∀ x ∈ es, NmE (lm + 1) x ∧ x.w.natAbs ≤ W + 5 := fun x hx => ⟨(hw x hx).1.mono (by omega), by have := (hw x hx).2; omega⟩
    have hcG := hc.mono s06
    refine ⟨_, rfl, _, _, rfl, rfl, _, rfl, ?_⟩
    refine ite2 (fun q0 => ?_) (fun q0 => ?_)
    · -- an entry is changed
      have hch5 : ch < 5 := by have := of_decide_eq_true q0; omega
      refine ⟨_, rfl, _, rfl, _, rfl, _, rfl, 5, rfl, lp, _, rfl, SqL.of (h21.fzat (s06 _ _ hlp)), fun la hla => ?_⟩
      have h22 := h21.new hla (.lst (xs := cutV (e.parts.map V.str) none (some 5)))
      have ec5 : cutV (e.parts.map V.str) none (some 5) = (e.parts.take 5).map V.str := by
        rw [cut_take (by decide), List.map_take]
        rfl
      generalize cutV (e.parts.map V.str) none (some 5) = cc at ec5 h22 ⊢
      subst ec5
      refine ⟨_, rfl, t2, _, 0, _, rfl, rfl, SqT.of (h22.fzat (s06 _ _ ht2)), atI_nat (j := 0) rfl, by show 1 ≤ sizeLine; decide, fun lb hlb => ?_⟩
      have h23 := h22.new hlb (.lst (xs := [.str e2.name]))
      refine ⟨la, lb, _, _, rfl, rfl, h23.get (i := 1) rfl, h23.get (i := 0) rfl, by rw [List.length_map, sizeLine_eq]; show _ + 1 ≤ _; omega, fun lc hlc => ?_⟩
      obtain ⟨sg7, h24⟩ := h23.drop1.drop1.fzNew hlc (.lst (xs := (e.parts.take 5).map V.str ++ [V.str e2.name]))
      have hGc : upd G6 lc (.lst ((e.parts.take 5).map V.str ++ [V.str e2.name])) lc = some (.lst ((e.parts.take 5 ++ [e2.name]).map V.str)) := by rw [upd_same, List.map_append]; rfl
      generalize upd G6 lc (.lst ((e.parts.take 5).map V.str ++ [V.str e2.name])) = G7 at sg7 h24 hGc
      refine ⟨by show 3 ≤ sizeLine; decide, fun t7 ht7 => ?_⟩
      obtain ⟨G8, sg8, en5, h25⟩ := h24.entT (nm := e.name) (w := e.w) hGc ht7
      refine ⟨by show 1 ≤ sizeLine; decide, fun ld hld => ?_⟩
      have h26 := h25.new hld (.lst (xs := [.ref t7]))
      refine ⟨l9, ld, _, _, rfl, rfl, h26.get (i := 1) rfl, h26.get (i := 0) rfl, by show 4 + 1 ≤ sizeLine; decide, fun le hle => ?_⟩
      have h27 := h26.drop1.drop1.new hle (.lst (xs := [V.ref t3, .ref t4] ++ [.ref t5, .ref t6] ++ [.ref t7]))
      have s68 : Same G6 G8 := fun b u z => sg8 b u (sg7 b u z)
      have cS5 : CatAt G8 ([V.ref t3, .ref t4] ++ [.ref t5, .ref t6] ++ [.ref t7]) ([⟨nm, e.w, e.parts⟩, ⟨e.name, w4, e.parts⟩, ⟨e.name, e.w, mo :: e.parts.take 5⟩, ⟨e.name, 1, e.parts⟩] ++ [⟨e.name, e.w, e.parts.take 5 ++ [e2.name]⟩]) := paired_appC (cS.mono s68) (.cons en5 .nil)
      have sm5 : ∀ x ∈ [(⟨nm, e.w, e.parts⟩ : Ent), ⟨e.name, w4, e.parts⟩, ⟨e.name, e.w, mo :: e.parts.take 5⟩, ⟨e.name, 1, e.parts⟩] ++ [⟨e.name, e.w, e.parts.take 5 ++ [e2.name]⟩], NmE (lm + 1) x ∧ x.w.natAbs ≤ W + 5 := by
        intro x hx
        rcases List.mem_append.mp hx with hx | hx
        · exact sm2 x hx
        · rw [List.mem_singleton.mp hx]
          refine ⟨⟨ne1.name.mono (by omega), by rw [List.length_append, List.length_singleton]; omega, fun q hq => ?_⟩, by show e.w.natAbs ≤ _; omega⟩
          rcases List.mem_append.mp hq with hq | hq
          · exact (ne1.parts q (List.mem_of_mem_take hq)).mono (by omega)
          · rw [List.mem_singleton.mp hq]
            exact ne2.name.mono (by omega)
      have hlist : ([V.ref t3, V.ref t4] ++ [V.ref t5, V.ref t6] ++ [V.ref t7]).length = 5 := rfl
      generalize [V.ref t3, V.ref t4] ++ [V.ref t5, V.ref t6] ++ [V.ref t7] = ts at h27 cS5 hlist
      have hch : ch < ts.length := by omega
      have hcx : ts[ch]? = some ts[ch] := List.getElem?_eq_getElem hch
      obtain ⟨en, hen, hev3⟩ := Paired.at cS5 hcx
      obtain ⟨b1, b2⟩ := sm5 en (List.mem_of_getElem? hen)
      refine ⟨_, rfl, le, ts, _, _, rfl, rfl, SqL.of (h27.get (i := 0) rfl), atI_nat hcx, ?_⟩
      have h28 := h27.drop1
      refine ⟨_, rfl, _, rfl, F, xs, sp, sp, rfl, rfl, h28.get (i := 0) rfl, ixN_nat hsp, ?_⟩
      have h29 := h28.put (i := 0) (o' := .lst (xs.set sp ts[ch])) rfl .lst
      exact ⟨_, rfl, k F _ G8 (xs.set sp ts[ch]) (es.set sp en) (fun b u z => s68 b u (s06 b u z)) (paired_set sp (hcG.mono s68) hev3) (by rw [List.length_set]; omega) (fun x hx => (mem_set_or hx).elim (old x) fun z => by rw [z]; exact ⟨b1, b2⟩) (h29.mono (by omega))⟩
    refine ⟨_, rfl, rfl, _, rfl, ?_⟩
    refine ite2 (fun q1 => ?_) (fun q1 => ?_)
    · -- an entry is removed
      have h22 := h21.drop1
      refine ⟨_, rfl, .inl ⟨rfl, _, SqL.of (h22.get (i := 0) rfl)⟩, _, rfl, F, xs, (sp : Int), sp, xs[sp], rfl, rfl, h22.get (i := 0) rfl, by omega, by omega, seq_ix (by omega) (by omega), hx, ?_⟩
      have h23 := h22.put (i := 0) (o' := .lst (xs.eraseIdx sp)) rfl .lst
      exact ⟨_, rfl, k F _ G6 (xs.eraseIdx sp) (es.eraseIdx sp) s06 (paired_erase sp hcG) (by rw [List.length_eraseIdx]; split <;> omega) (fun x hx => old x (List.mem_of_mem_eraseIdx hx)) (h23.mono (by omega))⟩
    refine ⟨_, rfl, rfl, _, rfl, ?_⟩
    refine ite2 (fun q2 => ?_) (fun q2 => ?_)
    · -- an entry is inserted
      refine ⟨_, rfl, .inl ⟨rfl, _, SqL.of (h21.drop1.get (i := 0) rfl)⟩, _, rfl, _, rfl, t2, _, 0, _, rfl, rfl, SqT.of (h21.fzat (s06 _ _ ht2)), atI_nat (j := 0) rfl, _, rfl, t2, _, 1, _, rfl, rfl, SqT.of (h21.fzat (s06 _ _ ht2)), atI_nat (j := 1) rfl, _, rfl, by show 4 ≤ sizeLine; decide, fun la hla => ?_⟩
      have h22 := h21.drop1.new hla (.lst (xs := [.int 0, .int 1, .int 5, .int (-5)]))
      refine ⟨_, rfl, p, _, _, G6, 4, rfl, h22, by omega, by decide, by decide, fun d7 H22 d70 d71 h23 => ?_⟩
      obtain ⟨w5, ew5, bw5⟩ := pick_int (P := fun i => i.natAbs ≤ 5) [0, 1, 5, -5] rfl d70 d71 (by decide)
      refine ⟨la, _, d7, .int w5, rfl, rfl, SqL.of (h23.get (i := 0) rfl), ew5, _, _, rfl, rfl, _, rfl, t2, _, 2, _, rfl, rfl, SqT.of (h23.fzat (s06 _ _ ht2)), atI_nat (j := 2) rfl, by show 3 ≤ sizeLine; decide, fun t8 ht8 => ?_⟩
      obtain ⟨G7, sg7, en5, h24⟩ := h23.drop1.entT (nm := e2.name) (w := e2.w + w5) (s06 _ _ hlp2) ht8
      refine ⟨F, xs, (sp : Int), _, rfl, rfl, h24.get (i := 0) rfl, by rw [sizeLine_eq]; omega, by omega, by omega, ?_⟩
      have h25 := h24.put (i := 0) (o' := .lst (xs.take sp ++ [.ref t8] ++ xs.drop sp)) rfl .lst
      refine ⟨_, rfl, k F _ G7 (xs.take sp ++ [.ref t8] ++ xs.drop sp) (es.take sp ++ [⟨e2.name, e2.w + w5, e2.parts⟩] ++ es.drop sp) (fun b u z => sg7 b u (s06 b u z)) (paired_appC (paired_appC (paired_takeC sp (hcG.mono sg7)) (.cons en5 .nil)) (paired_dropC sp (hcG.mono sg7))) ?_ (fun x hx => ?_) (h25.mono (by omega))⟩
      · rw [List.length_append, List.length_append, List.length_take, List.length_drop, List.length_singleton]
        omega
      · rcases List.mem_append.mp hx with hx | hx
        · rcases List.mem_append.mp hx with hx | hx
          · exact old x (List.mem_of_mem_take hx)
          · rw [List.mem_singleton.mp hx]
            exact ⟨⟨ne2.name.mono (by omega), ne2.fewp, (ne2.mono (by omega : lm ≤ lm + 1)).parts⟩, by show (e2.w + w5).natAbs ≤ _; omega⟩
        · exact old x (List.mem_of_mem_drop hx)
    · -- two entries change places
      have h22 := h21.drop1
      have hx0 : xs[0]? = some xs[0] := List.getElem?_eq_getElem (by omega)
      obtain ⟨e0, he0, hev0⟩ := Paired.at hcG hx0
      refine ⟨_, rfl, F, xs, 0, _, rfl, rfl, SqL.of (h22.get (i := 0) rfl), atI_nat (j := 0) hx0, _, rfl, _, rfl, F, xs, _, _, rfl, rfl, SqL.of (h22.get (i := 0) rfl), atI_nat hx, by show 2 ≤ sizeLine; decide, fun t9 ht9 => ?_⟩
      have h23 := h22.new ht9 (.tup (xs := [xs[0], xs[sp]]))
      refine ⟨t9, _, rfl, SqT.of upd_same, rfl, _, _, rfl, ?_⟩
      refine ⟨_, rfl, _, rfl, F, xs, (sp : Int), sp, rfl, rfl, h23.get (i := 1) rfl, ixN_nat hsp, ?_⟩
      have h24 := h23.put (i := 1) (o' := .lst (xs.set sp xs[0])) rfl .lst
      refine ⟨_, _, rfl, _, rfl, F, xs.set sp xs[0], 0, 0, rfl, rfl, h24.get (i := 1) rfl, ixN_nat (i := 0) (by rw [List.length_set]; omega), ?_⟩
      have h25 := (h24.put (i := 1) (o' := .lst ((xs.set sp xs[0]).set 0 xs[sp])) rfl .lst).drop1
      refine ⟨rfl, _, rfl, k F _ G6 ((xs.set sp xs[0]).set 0 xs[sp]) ((es.set sp e0).set 0 e) s06 (paired_set 0 (paired_set sp hcG hev0) (hev.mono s06)) (by rw [List.length_set, List.length_set]; omega) (fun x hx => ?_) (h25.mono (by omega))⟩
      rcases mem_set_or hx with hx | rfl
      · rcases mem_set_or hx with hx | rfl
        · exact old x hx
        · exact old _ (List.mem_of_getElem? he0)
      · exact old _ hem
end
end Sk
namespace Sk
open PySem PySem.Spec PyProof.Rows L2
/-- how a call ends: no error, or one of this class with this value -/
def outD : Option (Str × PyData) → PyData
  | none => .none
  | some (C, d) => .list [.str C, d, .bool true]
theorem outD_shal {o : Option (Str × PyData)} (h : ∀ C d, o = some (C, d) → (∃ x, d = .str x) ∨ ∃ i, d = .int i) : (outD o).depth < 5 ∧ cnt (outD o) ≤ 16000000 := by
  cases o with
  | none => exact ⟨by rw [outD, PyData.depth]; decide, by rw [outD, cnt]; decide⟩
  | some q =>
    obtain ⟨C, d⟩ := q
    have hd : d.depth = 0 ∧ cnt d = 1 := by
      rcases h C d rfl with ⟨x, rfl⟩ | ⟨i, rfl⟩
      · exact ⟨by rw [PyData.depth], by rw [cnt]⟩
      · exact ⟨by rw [PyData.depth], by rw [cnt]⟩
    refine ⟨?_, ?_⟩
    · show (PyData.list [.str C, d, .bool true]).depth < 5
      rw [PyData.depth]
      have := depth_le (ds := [PyData.str C, d, .bool true]) (m := 0) (fun y hy => by
        simp at hy
        rcases hy with rfl | rfl | rfl
        · rw [PyData.depth]; exact Nat.le_refl _
        · exact Nat.le_of_eq hd.1
        · rw [PyData.depth]; exact Nat.le_refl _)
      omega
    · show cnt (PyData.list [.str C, d, .bool true]) ≤ 16000000
      rw [cnt]
      have := cnt_le (ds := [PyData.str C, d, .bool true]) (m := 1) (fun y hy => by
        simp at hy
        rcases hy with rfl | rfl | rfl
        · rw [cnt]; exact Nat.le_refl _
        · exact Nat.le_of_eq hd.2
        · rw [cnt]; exact Nat.le_refl _)
      have e : ([PyData.str C, d, .bool true] : List PyData).length = 3 := rfl
      rw [e] at this
      omega
end Sk
namespace Sk
open PySem PySem.Spec PyProof.Rows L2
/-- how a call ends -/
inductive Oc where
  | cat (i : Nat)
  | stock (x : Str)
  | splits (x : Str)
  | number (n : Int)
  | steps (n : Int)
  | fine
def Oc.kw : Oc → Str
  | .cat _ => "catalogue"
  | .stock _ => "stock"
  | .splits _ => "splits"
  | .number _ => "number"
  | .steps _ => "steps"
  | .fine => "none"
def Oc.val : Oc → V
  | .cat i => .int i
  | .stock x => .str x
  | .splits x => .str x
  | .number n => .int n
  | .steps n => .int n
  | .fine => .non
theorem StockOk.notBad {es : List Ent} {st : Num} {x : Str} (so : StockOk es st) (h : FirstName (badSt es st) (st.map (·.1)) x) : False := by
  obtain ⟨h1, h2, _⟩ := h
  obtain ⟨q, hq, rfl⟩ := List.mem_map.mp h1
  rcases h2 with z | z
  · exact z (so.known q hq)
  · rw [getD_mem so.nd hq] at z
    have := so.pos q hq
    omega
theorem SplitsOk.notBad {es : List Ent} {st sp : Num} {x : Str} (ok : SplitsOk es st sp) (h : BadSp es st sp x) : False := by
  rcases h with ⟨h1, h2, _⟩ | ⟨_, es', i, e, hp, _, he, _, nf, _⟩
  · obtain ⟨q, hq, rfl⟩ := List.mem_map.mp h1
    exact h2 (ok.known q hq)
  · exact nf (ok.fits e (hp.mem_iff.mp (List.mem_of_getElem? he)))
theorem BadSp.uniq {es : List Ent} {st sp : Num} {x y : Str} (nd : (es.map (·.name)).Nodup) (a : BadSp es st sp x) (b : BadSp es st sp y) : x = y := by
  have no : ∀ {x : Str}, (∀ q ∈ sp, q.1 ∈ es.map (·.name)) → FirstName (· ∉ es.map (·.name)) (sp.map (·.1)) x → False := fun {x} kn h => by
    obtain ⟨q, hq, rfl⟩ := List.mem_map.mp h.1
    exact h.2.1 (kn q hq)
  rcases a with a | ⟨ka, es1, i, e, p1, o1, he, rfl, nf, fit⟩
  · rcases b with b | ⟨kb, _⟩
    · exact a.uniq b
    · exact (no kb a).elim
  · rcases b with b | ⟨kb, es2, j, e2, p2, o2, he2, rfl, nf2, fit2⟩
    · exact (no ka b).elim
    · obtain rfl := ordered_unique (p1.trans p2.symm) o1 o2 ((p1.map _).nodup_iff.mpr nd)
      rcases Nat.lt_trichotomy i j with z | z | z
      · exact absurd (fit2 i e z he) nf
      · subst z
        rw [he] at he2
        cases he2
        rfl
      · exact absurd (fit j e2 z he2) nf2
/-- so a call ends -/
def OcIs (door : Int) (es : List Ent) (st sp : Num) (n : Int) : Oc → Prop
  | .cat i => BadCat es i
  | .stock x => Valid es ∧ FirstName (badSt es st) (st.map (·.1)) x
  | .splits x => Valid es ∧ StockOk es st ∧ door = 3 ∧ BadSp es st sp x
  | .number m => Valid es ∧ StockOk es st ∧ door ≠ 3 ∧ m = n ∧ n < 0
  | .steps m => Valid es ∧ StockOk es st ∧ door < 2 ∧ 0 ≤ n ∧ (∃ es', es'.Perm es ∧ Ordered es' ∧ m = ((fs es' (getD st)).map (·.2)).sum) ∧ m < n
  | .fine => Valid es ∧ StockOk es st ∧ (door = 3 → SplitsOk es st sp) ∧ (door ≠ 3 → 0 ≤ n) ∧ (door < 2 → ∃ es', es'.Perm es ∧ Ordered es' ∧ n ≤ ((fs es' (getD st)).map (·.2)).sum)
theorem OcIs.uniq {door : Int} {es : List Ent} {st sp : Num} {n : Int} {a b : Oc} (ha : OcIs door es st sp n a) (hb : OcIs door es st sp n b) : a = b := by
  have tot : ∀ {e1 e2 : List Ent}, Valid es → e1.Perm es → Ordered e1 → e2.Perm es → Ordered e2 → e1 = e2 := fun {e1 e2} v p1 o1 p2 o2 => ordered_unique (p1.trans p2.symm) o1 o2 ((p1.map _).nodup_iff.mpr v.nodup)
  cases a with
  | cat i =>
    cases b with
    | cat j => rw [BadCat.uniq ha hb]
    | stock y => exact (BadCat.notValid ha hb.1).elim
    | splits y => exact (BadCat.notValid ha hb.1).elim
    | number y => exact (BadCat.notValid ha hb.1).elim
    | steps y => exact (BadCat.notValid ha hb.1).elim
    | fine => exact (BadCat.notValid ha hb.1).elim
  | stock x =>
    cases b with
    | cat j => exact (BadCat.notValid hb ha.1).elim
    | stock y => rw [ha.2.uniq hb.2]
    | splits y => exact (hb.2.1.notBad ha.2).elim
    | number y => exact (hb.2.1.notBad ha.2).elim
    | steps y => exact (hb.2.1.notBad ha.2).elim
    | fine => exact (hb.2.1.notBad ha.2).elim
  | splits x =>
    cases b with
    | cat j => exact (BadCat.notValid hb ha.1).elim
    | stock y => exact (ha.2.1.notBad hb.2).elim
    | splits y => rw [BadSp.uniq ha.1.nodup ha.2.2.2 hb.2.2.2]
    | number y => exact absurd ha.2.2.1 hb.2.2.1
    | steps y => have := ha.2.2.1; have := hb.2.2.1; omega
    | fine => exact ((hb.2.2.1 ha.2.2.1).notBad ha.2.2.2).elim
  | number x =>
    cases b with
    | cat j => exact (BadCat.notValid hb ha.1).elim
    | stock y => exact (ha.2.1.notBad hb.2).elim
    | splits y => exact absurd hb.2.2.1 ha.2.2.1
    | number y => rw [ha.2.2.2.1, hb.2.2.2.1]
    | steps y => have := ha.2.2.2.2; have := hb.2.2.2.1; omega
    | fine => have := ha.2.2.2.2; have := hb.2.2.2.1 ha.2.2.1; omega
  | steps x =>
    obtain ⟨v, so, d2, n0, ⟨e1, p1, o1, hx⟩, lt⟩ := ha
    cases b with
    | cat j => exact (BadCat.notValid hb v).elim
    | stock y => exact (so.notBad hb.2).elim
    | splits y => have := hb.2.2.1; omega
    | number y => have := hb.2.2.2.2; omega
    | steps y =>
      obtain ⟨_, _, _, _, ⟨e2, p2, o2, hy⟩, _⟩ := hb
      rw [hx, hy, tot v p1 o1 p2 o2]
    | fine =>
      obtain ⟨e2, p2, o2, hy⟩ := hb.2.2.2.2 d2
      rw [tot v p1 o1 p2 o2] at hx
      omega
  | fine =>
    obtain ⟨v, so, f1, f2, f3⟩ := ha
    cases b with
    | cat j => exact (BadCat.notValid hb v).elim
    | stock y => exact (so.notBad hb.2).elim
    | splits y => exact ((f1 hb.2.2.1).notBad hb.2.2.2).elim
    | number y => have := hb.2.2.2.2; have := f2 hb.2.2.1; omega
    | steps y =>
      obtain ⟨_, _, d2, _, ⟨e2, p2, o2, hy⟩, lt⟩ := hb
      obtain ⟨e1, p1, o1, hx⟩ := f3 d2
      rw [tot v p1 o1 p2 o2] at hx
      omega
    | fine => rfl
end Sk
namespace Sk
open PySem PySem.Spec PyProof.Rows L2
abbrev s_law_raised : Stmt := topS 37
abbrev N_law_raised : List Str := ["door", "entries", "other", "caught", "e"]
theorem sc_law_raised : FnScope N_law_raised ["door", "entries", "other"] (defScope s_law_raised) := ⟨rfl, rfl, rfl, by decide +kernel, rfl, by decide +kernel, by decide +kernel⟩
def R2 (es : List Ent) : Option (Str × PyData) → Prop
  | none => Valid es
  | some (C, d) => C = "InvalidCatalogue" ∧ ∃ i : Nat, d = .int i ∧ BadCat es i
def sp_law_raised (Tb : List (Addr × Str)) (K : PySem.W.Frag) : Sp := fun vs H Q _ => ∃ (door : Int) (a b : Addr) (xs : List V) (es : List Ent) (st : Num), vs = [.int door, .ref a, .ref b] ∧ 0 ≤ door ∧ door < 4 ∧ SqL K H a xs ∧ CatAt H xs es ∧ H b = some (.dK (dS st)) ∧ LamX.Tabs Tb H ∧ Sized es ∧ (st.map (·.1)).Nodup ∧ st.length < 64 ∧ (Valid es → st = []) ∧ ∀ o v H', R2 es o → Gr Tb H H' → Dp K H' v (outD o) → Q v H'
theorem stock_nil (es : List Ent) : StockOk es [] := ⟨List.nodup_nil, by decide, (fun q hq => nomatch hq), (fun q hq => nomatch hq)⟩
theorem amt_zeros {l : Num} (h : ∀ q ∈ l, q.2 = 0) (x : Str) : amt l x = 0 := by
  induction l with
  | nil => rfl
  | cons q l ih =>
    rw [amt_cons, ih fun z hz => h z (List.mem_cons_of_mem _ hz), h q (List.mem_cons_self ..)]
    split <;> rfl
theorem splits_nil (es : List Ent) : SplitsOk es [] [] := by
  refine ⟨List.nodup_nil, by decide, (fun q hq => nomatch hq), fun e _ => ⟨Int.le_refl _, ?_⟩⟩
  split
  · exact Int.le_refl _
  · rw [pn_at, amt_zeros]
    · exact Int.le_refl _
    · intro q hq
      unfold incs at hq
      obtain ⟨y, hy, hq⟩ := List.mem_flatMap.mp hq
      obtain ⟨z, hz, rfl⟩ := List.mem_map.mp hq
      rfl
section
variable {P : Program} {w : World} {K : PySem.W.Frag} {mg : Str → Option Value} {base : Heap} {Tb : List (Addr × Str)}
theorem ok_law_raised {f : Addr} {fd : FuncData} (F : FnP K "_law_raised" s_law_raised f fd) (T : Tx K mg) (GT_law_error : FnTx P w K mg base "_law_error" 1 ["e"] (hotSp (sp_law_error Tb K))) (GX_kinds : FnX P w K mg base "kinds" 5 ["catalogue"] (sp_kinds Tb K)) (GX_pieces : FnX P w K mg base "pieces" 6 ["catalogue", "stock", "splits"] (sp_pieces Tb K)) (GX_total_splits : FnX P w K mg base "total_splits" 5 ["catalogue", "stock"] (sp_total_splits Tb K)) (GX_whole_pieces : FnX P w K mg base "whole_pieces" 7 ["catalogue", "stock", "splits"] (sp_whole_pieces Tb K)) : FnOk P w K mg base CX0 8 f fd ["door", "entries", "other"] (sp_law_raised Tb K) := by
  refine F.ok sc_law_raised (fun vs H Q E h => ?_) (fun cdv A outer s H vs Q E hr h => ?_)
  · obtain ⟨_, _, _, _, _, _, rfl, _⟩ := h
    rfl
  · obtain ⟨door, a, b, xs, es, st, rfl, d0, d1, ha, hc, hb, ht, hz, nd, few, hst, k⟩ := h
    refine ⟨_, PSs.nox (pss_cons (ps_set (i := 3) sc_law_raised.nd rfl (Or.inl rfl) pe_non)
      (pss_cons (psTryT (i := 4) rfl rfl sc_law_raised.nd rfl rfl ⟨rfl, by decide, .inl T.g_StoreError⟩ takes0 (fun W pn xe tk po => (pss_one (ps_if (pt_cmpR op_eq (pv 0) pe_int (nomark _)) (pss_one (ps_expr (pe_fnX GX_kinds (hr.mono (by decide)) tk (pa_cons (pv 1) pa_nil)))) (pss_one (ps_if (pt_cmpR op_eq (pv 0) pe_int (nomark _)) (pss_one (ps_expr (pe_fnX GX_pieces (hr.mono (by decide)) tk (pa_cons (pv 1) (pa_cons (pv 2) (pa_cons (pv 2) pa_nil)))))) (pss_one (ps_if (pt_cmpR op_eq (pv 0) pe_int (nomark _)) (pss_one (ps_expr (pe_fnX GX_whole_pieces (hr.mono (by decide)) tk (pa_cons (pv 1) (pa_cons (pv 2) (pa_cons (pv 2) pa_nil)))))) (pss_one (ps_expr (pe_fnX GX_total_splits (hr.mono (by decide)) tk (pa_cons (pv 1) (pa_cons (pv 2) pa_nil)))))))))))) (fun a pn => (pss_one (ps_set (i := 3) sc_law_raised.nd rfl (Or.inl rfl) (pe_fnT GT_law_error (L2H.roomH_mark (hr.mono (by decide)) _) rfl (pa_cons (pv 4) pa_nil))))))
      (pss_one (ps_ret (pv 3))))), ?_⟩
    refine sq_st (fun σ H' => σ = [some (.int door), some (.ref a), some (.ref b), some .non, none] ∧ H = H') (fun N hN => hN _ _ ⟨rfl, rfl⟩) ?_
    rintro _ _ ⟨rfl, rfl⟩
    refine sq_st (fun σ H' => ∃ (v : V) (o : Option (Str × PyData)), σ = [some (.int door), some (.ref a), some (.ref b), some v, none] ∧ R2 es o ∧ Gr Tb H H' ∧ Dp K H' v (outD o)) (fun N hN => ?_) ?_
    · have good : ∀ H', Valid es → Gr Tb H H' → N [some (.int door), some (.ref a), some (.ref b), some .non, none] H' := fun H' hv g => hN _ _ ⟨_, none, rfl, hv, g, .non⟩
      have err : ∀ (i : Nat) (ex dd : Addr) (H' : Hp), BadCat es i → Gr Tb H H' → H' dd = some (.xd [("value", .int i)]) → H' ex = none →
          hotSp (sp_law_error Tb K) ex [.ref ex] (upd H' ex (exT ex (.ref (He.ga K "InvalidCatalogue")) (some dd))) (fun v H2 => N [some (.int door), some (.ref a), some (.ref b), some v, none] H2) E0 := fun i ex dd H' ho g hdd hex =>
        ⟨rfl, ex, "InvalidCatalogue", .int i, rfl, by decide, ⟨dd, upd_same, by rw [upd_ne (fun z => by rw [z, hex] at hdd; cases hdd)]; exact hdd⟩, fun t H2 g2 _ ht2 => hN _ _ ⟨_, some ("InvalidCatalogue", .int i), rfl, ⟨rfl, i, rfl, ho⟩, (g.trans (Gr.new hex)).trans g2, .lst (SqL.of ht2) (.cons (.str "InvalidCatalogue") (.cons (.int i) (.cons (.bl true) .nil)))⟩⟩
      have xm := (kiAll_ok T.ke (C := "InvalidCatalogue") (by decide)).xm
      have di : ∀ i : Int, decide (V.int door = V.int i) = decide (door = i) := fun i => decide_eq_decide.mpr ⟨V.int.inj, fun z => by rw [z]⟩
      have stn : ∀ x, Valid es → FirstName (badSt es st) (st.map (·.1)) x → False := fun x hv h => by
        rw [hst hv] at h
        exact (stock_nil es).notBad h
      have spn : ∀ x, Valid es → BadSp es st st x → False := fun x hv h => by
        rw [hst hv] at h
        exact (splits_nil es).notBad h
      refine ⟨_, rfl, rfl, _, rfl, ?_⟩
      rw [di]
      refine ite2 (fun q0 => ?_) (fun q0 => ?_)
      · exact ⟨_, rfl, a, xs, es, rfl, ha, hc, ht, hz, fun i dd H' h g hdd => ⟨true, xm, fun _ ex hex => ⟨_, rfl, err i ex dd _ h g hdd hex⟩, fun z => by cases z⟩, fun r H' es' hv hp ho g nr hr => good _ hv g⟩
      refine ⟨_, rfl, rfl, _, rfl, ?_⟩
      rw [di]
      refine ite2 (fun q1 => ?_) (fun q1 => ?_)
      · exact ⟨_, rfl, _, rfl, _, rfl, a, b, b, xs, es, st, st, rfl, ha, hc, hb, hb, ht, hz, nd, few, nd, few, ⟨fun i dd H' h g hdd => ⟨true, xm, fun _ ex hex => ⟨_, rfl, err i ex dd _ h g hdd hex⟩, fun z => by cases z⟩, fun x dd H' hv h g hdd => (stn x hv h).elim⟩, fun x dd H' hv so h g hdd => (spn x hv h).elim, fun r H' es' hv so ok hp ho g nr hr => good _ hv g⟩
      refine ⟨_, rfl, rfl, _, rfl, ?_⟩
      rw [di]
      refine ite2 (fun q2 => ?_) (fun q2 => ?_)
      · exact ⟨_, rfl, _, rfl, _, rfl, a, b, b, xs, es, st, st, rfl, ha, hc, hb, hb, ht, hz, nd, few, nd, few, ⟨fun i dd H' h g hdd => ⟨true, xm, fun _ ex hex => ⟨_, rfl, err i ex dd _ h g hdd hex⟩, fun z => by cases z⟩, fun x dd H' hv h g hdd => (stn x hv h).elim⟩, fun x dd H' hv so h g hdd => (spn x hv h).elim, fun r H' es' hv so ok hp ho g nr hr => good _ hv g⟩
      · exact ⟨_, rfl, _, rfl, a, b, xs, es, st, rfl, ha, hc, hb, ht, hz, nd, few, ⟨fun i dd H' h g hdd => ⟨true, xm, fun _ ex hex => ⟨_, rfl, err i ex dd _ h g hdd hex⟩, fun z => by cases z⟩, fun x dd H' hv h g hdd => (stn x hv h).elim⟩, fun H' es' hv so hp ho g => good _ hv g⟩
    rintro σ H1 ⟨v, o, rfl, ho, g1, hd⟩
    exact ⟨_, rfl, k o v _ ho g1 hd⟩
end
end Sk
namespace Sk
open PySem PySem.Spec PyProof.Rows L2
abbrev s_law_classes_right : Stmt := topS 38
abbrev N_law_classes_right : List Str := ["made", "names", "values", "bare", "e", "k"]
theorem sc_law_classes_right : FnScope N_law_classes_right [] (defScope s_law_classes_right) := ⟨rfl, rfl, rfl, by decide +kernel, rfl, by decide +kernel, by decide +kernel⟩
def sp_law_classes_right (Tb : List (Addr × Str)) (K : PySem.W.Frag) : Sp := fun vs H Q _ => vs = [] ∧ (LamX.Tabs Tb H ∧ ∀ H', Gr Tb H H' → Q (.bl true) H')
theorem excMk {T : List (Addr × Str)} {K : PySem.W.Frag} {H : Hp} {a d : Addr} {C : Str} {v : V} (hd : H d = none) (ha : (upd H d (.xd [("value", v)])) a = none) : Gr T H (upd (upd H d (.xd [("value", v)])) a (exT a (.ref (He.ga K C)) (some d))) ∧ ExcV K (upd (upd H d (.xd [("value", v)])) a (exT a (.ref (He.ga K C)) (some d))) a C v :=
  ⟨(Gr.new hd).trans (Gr.new ha), d, upd_same, by rw [upd_ne (fun z => by rw [← z, upd_same] at ha; cases ha)]; exact upd_same⟩
/-- the exceptions of the law -/
def excQ : List (Str × V) := [("InvalidCatalogue", .int 3), ("InvalidStock", .str "a"), ("InvalidSplits", .str "b"), ("InvalidStep", .int 0), ("InvalidNumber", .int (-1)), ("TooManySteps", .int 7), ("InvalidText", .str "x"), ("InvalidCatalogue", .int 0), ("InvalidStock", .str ""), ("TooManySteps", .int 0), ("InvalidSplits", .str "c"), ("InvalidStep", .int 2), ("InvalidNumber", .int (-5)), ("InvalidText", .str "")]
def vD : V → PyData
  | .int i => .int i
  | .str x => .str x
  | _ => .none
def qD (q : Str × V) : PyData := .list [.str q.1, vD q.2, .bool true]
theorem vD_ok {K : PySem.W.Frag} {H : Hp} : ∀ q ∈ excQ, Dp K H q.2 (vD q.2) ∧ q.1 ∈ seven := by
  intro q hq
  unfold excQ at hq
  simp only [List.mem_cons, List.not_mem_nil, or_false] at hq
  rcases hq with rfl | rfl | rfl | rfl | rfl | rfl | rfl | rfl | rfl | rfl | rfl | rfl | rfl | rfl <;> exact ⟨by constructor, by decide⟩
def RowQ (H : Hp) (D : Addr) (q : Str × V) (y : V) : Prop := ∃ r, y = .ref r ∧ r ≠ D ∧ H r = some (.lst [.str q.1, q.2, .bl true])
theorem rowsQ_dp {K : PySem.W.Frag} {H : Hp} {D : Addr} : ∀ {qs : List (Str × V)} {ys : List V}, (∀ q ∈ qs, Dp K H q.2 (vD q.2)) → Paired (RowQ H D) qs ys → DpAll K H ys (qs.map qD)
  | _, _, _, .nil => .nil
  | q :: qs, _, h, .cons ⟨r, e1, _, e2⟩ t => by
    subst e1
    exact .cons (.lst (SqL.of e2) (.cons (.str q.1) (.cons (h q (List.mem_cons_self ..)) (.cons (.bl true) .nil)))) (rowsQ_dp (fun z hz => h z (List.mem_cons_of_mem _ hz)) t)
theorem ExcV.mut {K : PySem.W.Frag} {H : Hp} {e m : Addr} {C : Str} {v : V} {xs : List V} {o : HO} (h : ExcV K H e C v) (hm : H m = some (.lst xs)) : ExcV K (upd H m o) e C v := by
  obtain ⟨d, h1, h2⟩ := h
  refine ⟨d, ?_, ?_⟩
  · rw [upd_ne (fun z => by
      rw [z, hm] at h1
      have z' : some (HO.lst xs) = some (HO.ext _) := h1
      cases z')]
    exact h1
  · rw [upd_ne (fun z => by rw [z, hm] at h2; cases h2)]
    exact h2
def ExPair (K : PySem.W.Frag) (H : Hp) (qs : List (Str × V)) (es : List V) : Prop := Paired (fun (q : Str × V) (v : V) => ∃ e, v = .ref e ∧ ExcV K H e q.1 q.2) qs es
theorem ExPair.gr {T : List (Addr × Str)} {K : PySem.W.Frag} {H H' : Hp} {qs : List (Str × V)} {es : List V} (h : ExPair K H qs es) (g : Gr T H H') : ExPair K H' qs es := Paired.imp (fun _ _ ⟨e, h1, h2⟩ => ⟨e, h1, h2.gr g⟩) h
theorem paired_snoc2 {α β : Type} {R : α → β → Prop} : ∀ {xs : List α} {ys : List β} {x : α} {y : β}, Paired R xs ys → R x y → Paired R (xs ++ [x]) (ys ++ [y])
  | _, _, _, _, .nil, h => .cons h .nil
  | _, _, _, _, .cons a t, h => .cons a (paired_snoc2 t h)
theorem kitAny_no {K : PySem.W.Frag} {C : Value} : ∀ {us : List Value}, (∀ u ∈ us, PySem.W.kitOne K C u = some false) → PySem.W.kitAny K C us = some false
  | [], _ => rfl
  | u :: us, h => by
    unfold PySem.W.kitAny
    rw [h u (List.mem_cons_self ..)]
    exact kitAny_no fun z hz => h z (List.mem_cons_of_mem _ hz)
section
variable {P : Program} {w : World} {K : PySem.W.Frag} {mg : Str → Option Value} {base : Heap} {Tb : List (Addr × Str)}
theorem ok_law_classes_right {f : Addr} {fd : FuncData} (F : FnP K "_law_classes_right" s_law_classes_right f fd) (T : Tx K mg) (XC_InvalidCatalogue : Xc P w K mg base "InvalidCatalogue") (XC_InvalidNumber : Xc P w K mg base "InvalidNumber") (XC_InvalidSplits : Xc P w K mg base "InvalidSplits") (XC_InvalidStep : Xc P w K mg base "InvalidStep") (XC_InvalidStock : Xc P w K mg base "InvalidStock") (XC_InvalidText : Xc P w K mg base "InvalidText") (XC_TooManySteps : Xc P w K mg base "TooManySteps") (G_law_error : Fn P w K mg base "_law_error" 1 ["e"] (sp_law_error Tb K)) : FnOk P w K mg base CX0 3 f fd [] (sp_law_classes_right Tb K) := by
  refine F.ok sc_law_classes_right (fun vs H Q E h => ?_) (fun cdv A outer s H vs Q E hr h => ?_)
  · obtain ⟨rfl, _⟩ := h
    rfl
  · obtain ⟨rfl, ht, k⟩ := h
    refine ⟨_, PSs.nox (pss_cons (ps_set (i := 0) sc_law_classes_right.nd rfl (Or.inl rfl) (pe_lst (pa_cons (pe_ofMk (pmkXc (K := K) rfl XC_InvalidCatalogue (hr.mono (by decide)) (pa_cons pe_int pa_nil))) (pa_cons (pe_ofMk (pmkXcK (K := K) rfl XC_InvalidStock (hr.mono (by decide)) (pk_cons pe_str pk_nil))) (pa_cons (pe_ofMk (pmkXc (K := K) rfl XC_InvalidSplits (hr.mono (by decide)) (pa_cons pe_str pa_nil))) (pa_cons (pe_ofMk (pmkXcK (K := K) rfl XC_InvalidStep (hr.mono (by decide)) (pk_cons pe_int pk_nil))) (pa_cons (pe_ofMk (pmkXc (K := K) rfl XC_InvalidNumber (hr.mono (by decide)) (pa_cons (pe_un un_neg pe_int) pa_nil))) pa_nil)))))))
      (pss_cons (ps_set (i := 0) sc_law_classes_right.nd rfl (Or.inl rfl) (pe_op op_cat (pv 0) (pe_lst (pa_cons (pe_ofMk (pmkXcK (K := K) rfl XC_TooManySteps (hr.mono (by decide)) (pk_cons pe_int pk_nil))) (pa_cons (pe_ofMk (pmkXc (K := K) rfl XC_InvalidText (hr.mono (by decide)) (pa_cons pe_str pa_nil))) (pa_cons (pe_ofMk (pmkXcK (K := K) rfl XC_InvalidCatalogue (hr.mono (by decide)) (pk_cons pe_int pk_nil))) (pa_cons (pe_ofMk (pmkXc (K := K) rfl XC_InvalidStock (hr.mono (by decide)) (pa_cons pe_str pa_nil))) pa_nil)))))))
      (pss_cons (ps_set (i := 0) sc_law_classes_right.nd rfl (Or.inl rfl) (pe_op op_cat (pv 0) (pe_lst (pa_cons (pe_ofMk (pmkXc (K := K) rfl XC_TooManySteps (hr.mono (by decide)) (pa_cons pe_int pa_nil))) (pa_cons (pe_ofMk (pmkXcK (K := K) rfl XC_InvalidSplits (hr.mono (by decide)) (pk_cons pe_str pk_nil))) (pa_cons (pe_ofMk (pmkXc (K := K) rfl XC_InvalidStep (hr.mono (by decide)) (pa_cons pe_int pa_nil))) (pa_cons (pe_ofMk (pmkXcK (K := K) rfl XC_InvalidNumber (hr.mono (by decide)) (pk_cons (pe_un un_neg pe_int) pk_nil))) pa_nil)))))))
      (pss_cons (ps_expr (peBm (K := K) rfl PySem.F.plainAttrs_list PySem.F.slot_list_append PySem.F.type_list_append mt_append (pv 0) (pa_cons (pe_ofMk (pmkXcK (K := K) rfl XC_InvalidText (hr.mono (by decide)) (pk_cons pe_str pk_nil))) pa_nil)))
      (pss_cons (ps_set (i := 1) sc_law_classes_right.nd rfl (Or.inr rfl) (pe_lst (pa_cons pe_str (pa_cons pe_str (pa_cons pe_str (pa_cons pe_str (pa_cons pe_str (pa_cons pe_str pa_nil))))))))
      (pss_cons (ps_set (i := 1) sc_law_classes_right.nd rfl (Or.inr rfl) (pe_op op_cat (pv 1) (pe_lst (pa_cons pe_str (pa_cons pe_str (pa_cons pe_str (pa_cons pe_str (pa_cons pe_str (pa_cons pe_str pa_nil)))))))))
      (pss_cons (ps_set (i := 1) sc_law_classes_right.nd rfl (Or.inr rfl) (pe_op op_cat (pv 1) (pe_lst (pa_cons pe_str (pa_cons pe_str pa_nil)))))
      (pss_cons (ps_set (i := 2) sc_law_classes_right.nd rfl (Or.inr rfl) (pe_lst (pa_cons pe_int (pa_cons pe_str (pa_cons pe_str (pa_cons pe_int (pa_cons (pe_un un_neg pe_int) (pa_cons pe_int (pa_cons pe_str (pa_cons pe_int (pa_cons pe_str (pa_cons pe_int (pa_cons pe_str (pa_cons pe_int (pa_cons (pe_un un_neg pe_int) (pa_cons pe_str pa_nil))))))))))))))))
      (pss_cons (ps_set (i := 3) sc_law_classes_right.nd rfl (Or.inl rfl) (pe_ofMk (pmkBare (K := K) rfl T.se T.g_StoreError)))
      (pss_cons (ps_if (pt_val (pe_callB (isXTk (K := K) rfl) (by rfl) T.n_isinstance (by decide +kernel) (pa_cons (pv 3) (pa_cons (pe_tup (pa_cons (C8.pe_gc (v := V.ref (He.ga K "InvalidCatalogue")) (by rfl) ⟨_, T.g_InvalidCatalogue, rfl⟩) (pa_cons (C8.pe_gc (v := V.ref (He.ga K "InvalidNumber")) (by rfl) ⟨_, T.g_InvalidNumber, rfl⟩) (pa_cons (C8.pe_gc (v := V.ref (He.ga K "InvalidSplits")) (by rfl) ⟨_, T.g_InvalidSplits, rfl⟩) (pa_cons (C8.pe_gc (v := V.ref (He.ga K "InvalidStep")) (by rfl) ⟨_, T.g_InvalidStep, rfl⟩) (pa_cons (C8.pe_gc (v := V.ref (He.ga K "InvalidStock")) (by rfl) ⟨_, T.g_InvalidStock, rfl⟩) (pa_cons (C8.pe_gc (v := V.ref (He.ga K "InvalidText")) (by rfl) ⟨_, T.g_InvalidText, rfl⟩) pa_nil))))))) pa_nil)))) (pss_one (ps_ret pe_bl)) pss_nil)
      (pss_cons (ps_if (pt_val (pe_callB (isXk (K := K) rfl) (by rfl) T.n_isinstance (by decide +kernel) (pa_cons (pv 3) (pa_cons (C8.pe_gc (v := V.ref (He.ga K "TooManySteps")) (by rfl) ⟨_, T.g_TooManySteps, rfl⟩) pa_nil)))) (pss_one (ps_ret pe_bl)) pss_nil)
      (pss_one (ps_ret (pe_cmpR (opEqD (K := K) rfl hr.units) (pe_lc (own := [("e", 4)]) (g := (gName 4)) (tt := tYes) rfl sc_law_classes_right.nd (piL (K := K) rfl (pv 0)) (blkOk_by (N := N_law_classes_right) (sc := (defScope s_law_classes_right)) (by decide +kernel)) (fun _ _ _ _ _ => (pg_name (i := 4) sc_law_classes_right.nd rfl (Or.inl rfl))) (fun _ _ _ _ _ => pts_nil) (fun _ _ _ _ _ => (pe_fn G_law_error (hr.mono (by decide)) (pa_cons (pv 4) pa_nil)))) (pe_lc (own := [("k", 5)]) (g := (gName 5)) (tt := tYes) rfl sc_law_classes_right.nd (pi_range1 (by rfl) T.n_range (pa_cons pe_int pa_nil)) (blkOk_by (N := N_law_classes_right) (sc := (defScope s_law_classes_right)) (by decide +kernel)) (fun _ _ _ _ _ => (pg_name (i := 5) sc_law_classes_right.nd rfl (Or.inl rfl))) (fun _ _ _ _ _ => pts_nil) (fun _ _ _ _ _ => (pe_lst (pa_cons (pe_ix (ixL (K := K) rfl) (pv 1) (pv 5) (fun _ _ => rfl)) (pa_cons (pe_ix (ixL (K := K) rfl) (pv 2) (pv 5) (fun _ _ => rfl)) (pa_cons pe_bl pa_nil)))))) (nomark _))))))))))))))), ?_⟩
    have g0 := Gr.refl (T := Tb) H
    refine ⟨_, rfl, fun d1 hd1 e1 he1 => ?_⟩
    obtain ⟨g1, x1⟩ := excMk (T := Tb) (K := K) (C := "InvalidCatalogue") (v := .int 3) hd1 he1
    generalize upd (upd H d1 (.xd [("value", .int 3)])) e1 (exT e1 (.ref (He.ga K "InvalidCatalogue")) (some d1)) = B1 at g1 x1 ⊢
    have G1 := g0.trans g1
    clear hd1 he1
    refine ⟨_, rfl, fun d2 hd2 e2 he2 => ?_⟩
    obtain ⟨g2, x2⟩ := excMk (T := Tb) (K := K) (C := "InvalidStock") (v := .str "a") hd2 he2
    generalize upd (upd B1 d2 (.xd [("value", .str "a")])) e2 (exT e2 (.ref (He.ga K "InvalidStock")) (some d2)) = B2 at g2 x2 ⊢
    have x1 := x1.gr g2
    have G2 := G1.trans g2
    clear hd2 he2
    refine ⟨_, rfl, fun d3 hd3 e3 he3 => ?_⟩
    obtain ⟨g3, x3⟩ := excMk (T := Tb) (K := K) (C := "InvalidSplits") (v := .str "b") hd3 he3
    generalize upd (upd B2 d3 (.xd [("value", .str "b")])) e3 (exT e3 (.ref (He.ga K "InvalidSplits")) (some d3)) = B3 at g3 x3 ⊢
    have x1 := x1.gr g3
    have x2 := x2.gr g3
    have G3 := G2.trans g3
    clear hd3 he3
    refine ⟨_, rfl, fun d4 hd4 e4 he4 => ?_⟩
    obtain ⟨g4, x4⟩ := excMk (T := Tb) (K := K) (C := "InvalidStep") (v := .int 0) hd4 he4
    generalize upd (upd B3 d4 (.xd [("value", .int 0)])) e4 (exT e4 (.ref (He.ga K "InvalidStep")) (some d4)) = B4 at g4 x4 ⊢
    have x1 := x1.gr g4
    have x2 := x2.gr g4
    have x3 := x3.gr g4
    have G4 := G3.trans g4
    clear hd4 he4
    refine ⟨_, rfl, _, rfl, fun d5 hd5 e5 he5 => ?_⟩
    obtain ⟨g5, x5⟩ := excMk (T := Tb) (K := K) (C := "InvalidNumber") (v := .int (-1)) hd5 he5
    generalize upd (upd B4 d5 (.xd [("value", .int (-1))])) e5 (exT e5 (.ref (He.ga K "InvalidNumber")) (some d5)) = B5 at g5 x5 ⊢
    have x1 := x1.gr g5
    have x2 := x2.gr g5
    have x3 := x3.gr g5
    have x4 := x4.gr g5
    have G5 := G4.trans g5
    clear hd5 he5
    refine ⟨by show 5 ≤ sizeLine; decide, fun l0 hl0 => ?_⟩
    have gn := Gr.new (T := Tb) (o := .lst [.ref e1, .ref e2, .ref e3, .ref e4, .ref e5]) hl0
    have pl : (upd B5 l0 (.lst [.ref e1, .ref e2, .ref e3, .ref e4, .ref e5])) l0 = some (.lst [.ref e1, .ref e2, .ref e3, .ref e4, .ref e5]) := upd_same
    generalize upd B5 l0 (.lst [.ref e1, .ref e2, .ref e3, .ref e4, .ref e5]) = Cl0 at gn pl ⊢
    have x1 := x1.gr gn
    have x2 := x2.gr gn
    have x3 := x3.gr gn
    have x4 := x4.gr gn
    have x5 := x5.gr gn
    have GCl0 := G5.trans gn
    clear gn hl0
    have ph := pl
    clear pl
    refine ⟨_, rfl, _, rfl, fun d6 hd6 e6 he6 => ?_⟩
    obtain ⟨g6, x6⟩ := excMk (T := Tb) (K := K) (C := "TooManySteps") (v := .int 7) hd6 he6
    generalize upd (upd Cl0 d6 (.xd [("value", .int 7)])) e6 (exT e6 (.ref (He.ga K "TooManySteps")) (some d6)) = B6 at g6 x6 ⊢
    have x1 := x1.gr g6
    have x2 := x2.gr g6
    have x3 := x3.gr g6
    have x4 := x4.gr g6
    have x5 := x5.gr g6
    have G6 := GCl0.trans g6
    clear hd6 he6
    have ph := g6.at ph .lst
    refine ⟨_, rfl, fun d7 hd7 e7 he7 => ?_⟩
    obtain ⟨g7, x7⟩ := excMk (T := Tb) (K := K) (C := "InvalidText") (v := .str "x") hd7 he7
    generalize upd (upd B6 d7 (.xd [("value", .str "x")])) e7 (exT e7 (.ref (He.ga K "InvalidText")) (some d7)) = B7 at g7 x7 ⊢
    have x1 := x1.gr g7
    have x2 := x2.gr g7
    have x3 := x3.gr g7
    have x4 := x4.gr g7
    have x5 := x5.gr g7
    have x6 := x6.gr g7
    have G7 := G6.trans g7
    clear hd7 he7
    have ph := g7.at ph .lst
    refine ⟨_, rfl, fun d8 hd8 e8 he8 => ?_⟩
    obtain ⟨g8, x8⟩ := excMk (T := Tb) (K := K) (C := "InvalidCatalogue") (v := .int 0) hd8 he8
    generalize upd (upd B7 d8 (.xd [("value", .int 0)])) e8 (exT e8 (.ref (He.ga K "InvalidCatalogue")) (some d8)) = B8 at g8 x8 ⊢
    have x1 := x1.gr g8
    have x2 := x2.gr g8
    have x3 := x3.gr g8
    have x4 := x4.gr g8
    have x5 := x5.gr g8
    have x6 := x6.gr g8
    have x7 := x7.gr g8
    have G8 := G7.trans g8
    clear hd8 he8
    have ph := g8.at ph .lst
    refine ⟨_, rfl, fun d9 hd9 e9 he9 => ?_⟩
    obtain ⟨g9, x9⟩ := excMk (T := Tb) (K := K) (C := "InvalidStock") (v := .str "") hd9 he9
    generalize upd (upd B8 d9 (.xd [("value", .str "")])) e9 (exT e9 (.ref (He.ga K "InvalidStock")) (some d9)) = B9 at g9 x9 ⊢
    have x1 := x1.gr g9
    have x2 := x2.gr g9
    have x3 := x3.gr g9
    have x4 := x4.gr g9
    have x5 := x5.gr g9
    have x6 := x6.gr g9
    have x7 := x7.gr g9
    have x8 := x8.gr g9
    have G9 := G8.trans g9
    clear hd9 he9
    have ph := g9.at ph .lst
    refine ⟨by show 4 ≤ sizeLine; decide, fun l1 hl1 => ?_⟩
    have gn := Gr.new (T := Tb) (o := .lst [.ref e6, .ref e7, .ref e8, .ref e9]) hl1
    have pl : (upd B9 l1 (.lst [.ref e6, .ref e7, .ref e8, .ref e9])) l1 = some (.lst [.ref e6, .ref e7, .ref e8, .ref e9]) := upd_same
    have ph := gn.at ph .lst
    generalize upd B9 l1 (.lst [.ref e6, .ref e7, .ref e8, .ref e9]) = Cl1 at gn pl ph ⊢
    have x1 := x1.gr gn
    have x2 := x2.gr gn
    have x3 := x3.gr gn
    have x4 := x4.gr gn
    have x5 := x5.gr gn
    have x6 := x6.gr gn
    have x7 := x7.gr gn
    have x8 := x8.gr gn
    have x9 := x9.gr gn
    have GCl1 := G9.trans gn
    clear gn hl1
    refine ⟨l0, l1, _, _, rfl, rfl, ph, pl, by show 5 + 4 ≤ sizeLine; decide, fun m1 hm1 => ?_⟩
    clear pl
    have gn := Gr.new (T := Tb) (o := .lst ([.ref e1, .ref e2, .ref e3, .ref e4, .ref e5] ++ [.ref e6, .ref e7, .ref e8, .ref e9])) hm1
    have pl : (upd Cl1 m1 (.lst ([.ref e1, .ref e2, .ref e3, .ref e4, .ref e5] ++ [.ref e6, .ref e7, .ref e8, .ref e9]))) m1 = some (.lst [.ref e1, .ref e2, .ref e3, .ref e4, .ref e5, .ref e6, .ref e7, .ref e8, .ref e9]) := upd_same
    generalize upd Cl1 m1 (.lst ([.ref e1, .ref e2, .ref e3, .ref e4, .ref e5] ++ [.ref e6, .ref e7, .ref e8, .ref e9])) = Cm1 at gn pl ⊢
    have x1 := x1.gr gn
    have x2 := x2.gr gn
    have x3 := x3.gr gn
    have x4 := x4.gr gn
    have x5 := x5.gr gn
    have x6 := x6.gr gn
    have x7 := x7.gr gn
    have x8 := x8.gr gn
    have x9 := x9.gr gn
    have GCm1 := GCl1.trans gn
    clear gn hm1
    have ph := pl
    clear pl
    refine ⟨_, rfl, _, rfl, fun d10 hd10 e10 he10 => ?_⟩
    obtain ⟨g10, x10⟩ := excMk (T := Tb) (K := K) (C := "TooManySteps") (v := .int 0) hd10 he10
    generalize upd (upd Cm1 d10 (.xd [("value", .int 0)])) e10 (exT e10 (.ref (He.ga K "TooManySteps")) (some d10)) = B10 at g10 x10 ⊢
    have x1 := x1.gr g10
    have x2 := x2.gr g10
    have x3 := x3.gr g10
    have x4 := x4.gr g10
    have x5 := x5.gr g10
    have x6 := x6.gr g10
    have x7 := x7.gr g10
    have x8 := x8.gr g10
    have x9 := x9.gr g10
    have G10 := GCm1.trans g10
    clear hd10 he10
    have ph := g10.at ph .lst
    refine ⟨_, rfl, fun d11 hd11 e11 he11 => ?_⟩
    obtain ⟨g11, x11⟩ := excMk (T := Tb) (K := K) (C := "InvalidSplits") (v := .str "c") hd11 he11
    generalize upd (upd B10 d11 (.xd [("value", .str "c")])) e11 (exT e11 (.ref (He.ga K "InvalidSplits")) (some d11)) = B11 at g11 x11 ⊢
    have x1 := x1.gr g11
    have x2 := x2.gr g11
    have x3 := x3.gr g11
    have x4 := x4.gr g11
    have x5 := x5.gr g11
    have x6 := x6.gr g11
    have x7 := x7.gr g11
    have x8 := x8.gr g11
    have x9 := x9.gr g11
    have x10 := x10.gr g11
    have G11 := G10.trans g11
    clear hd11 he11
    have ph := g11.at ph .lst
    refine ⟨_, rfl, fun d12 hd12 e12 he12 => ?_⟩
    obtain ⟨g12, x12⟩ := excMk (T := Tb) (K := K) (C := "InvalidStep") (v := .int 2) hd12 he12
    generalize upd (upd B11 d12 (.xd [("value", .int 2)])) e12 (exT e12 (.ref (He.ga K "InvalidStep")) (some d12)) = B12 at g12 x12 ⊢
    have x1 := x1.gr g12
    have x2 := x2.gr g12
    have x3 := x3.gr g12
    have x4 := x4.gr g12
    have x5 := x5.gr g12
    have x6 := x6.gr g12
    have x7 := x7.gr g12
    have x8 := x8.gr g12
    have x9 := x9.gr g12
    have x10 := x10.gr g12
    have x11 := x11.gr g12
    have G12 := G11.trans g12
    clear hd12 he12
    have ph := g12.at ph .lst
    refine ⟨_, rfl, _, rfl, fun d13 hd13 e13 he13 => ?_⟩
    obtain ⟨g13, x13⟩ := excMk (T := Tb) (K := K) (C := "InvalidNumber") (v := .int (-5)) hd13 he13
    generalize upd (upd B12 d13 (.xd [("value", .int (-5))])) e13 (exT e13 (.ref (He.ga K "InvalidNumber")) (some d13)) = B13 at g13 x13 ⊢
    have x1 := x1.gr g13
    have x2 := x2.gr g13
    have x3 := x3.gr g13
    have x4 := x4.gr g13
    have x5 := x5.gr g13
    have x6 := x6.gr g13
    have x7 := x7.gr g13
    have x8 := x8.gr g13
    have x9 := x9.gr g13
    have x10 := x10.gr g13
    have x11 := x11.gr g13
    have x12 := x12.gr g13
    have G13 := G12.trans g13
    clear hd13 he13
    have ph := g13.at ph .lst
    refine ⟨by show 4 ≤ sizeLine; decide, fun l2 hl2 => ?_⟩
    have gn := Gr.new (T := Tb) (o := .lst [.ref e10, .ref e11, .ref e12, .ref e13]) hl2
    have pl : (upd B13 l2 (.lst [.ref e10, .ref e11, .ref e12, .ref e13])) l2 = some (.lst [.ref e10, .ref e11, .ref e12, .ref e13]) := upd_same
    have ph := gn.at ph .lst
    generalize upd B13 l2 (.lst [.ref e10, .ref e11, .ref e12, .ref e13]) = Cl2 at gn pl ph ⊢
    have x1 := x1.gr gn
    have x2 := x2.gr gn
    have x3 := x3.gr gn
    have x4 := x4.gr gn
    have x5 := x5.gr gn
    have x6 := x6.gr gn
    have x7 := x7.gr gn
    have x8 := x8.gr gn
    have x9 := x9.gr gn
    have x10 := x10.gr gn
    have x11 := x11.gr gn
    have x12 := x12.gr gn
    have x13 := x13.gr gn
    have GCl2 := G13.trans gn
    clear gn hl2
    refine ⟨m1, l2, _, _, rfl, rfl, ph, pl, by show 9 + 4 ≤ sizeLine; decide, fun m2 hm2 => ?_⟩
    clear pl
    have gn := Gr.new (T := Tb) (o := .lst ([.ref e1, .ref e2, .ref e3, .ref e4, .ref e5, .ref e6, .ref e7, .ref e8, .ref e9] ++ [.ref e10, .ref e11, .ref e12, .ref e13])) hm2
    have pl : (upd Cl2 m2 (.lst ([.ref e1, .ref e2, .ref e3, .ref e4, .ref e5, .ref e6, .ref e7, .ref e8, .ref e9] ++ [.ref e10, .ref e11, .ref e12, .ref e13]))) m2 = some (.lst [.ref e1, .ref e2, .ref e3, .ref e4, .ref e5, .ref e6, .ref e7, .ref e8, .ref e9, .ref e10, .ref e11, .ref e12, .ref e13]) := upd_same
    generalize upd Cl2 m2 (.lst ([.ref e1, .ref e2, .ref e3, .ref e4, .ref e5, .ref e6, .ref e7, .ref e8, .ref e9] ++ [.ref e10, .ref e11, .ref e12, .ref e13])) = Cm2 at gn pl ⊢
    have x1 := x1.gr gn
    have x2 := x2.gr gn
    have x3 := x3.gr gn
    have x4 := x4.gr gn
    have x5 := x5.gr gn
    have x6 := x6.gr gn
    have x7 := x7.gr gn
    have x8 := x8.gr gn
    have x9 := x9.gr gn
    have x10 := x10.gr gn
    have x11 := x11.gr gn
    have x12 := x12.gr gn
    have x13 := x13.gr gn
    have nwm2 := GCl2.nw (.of hm2)
    have GCm2 := GCl2.trans gn
    clear gn hm2
    have ph := pl
    clear pl
    -- append
    refine ⟨_, rfl, .inl ⟨rfl, _, SqL.of ph⟩, ?_⟩
    refine ⟨_, rfl, fun d14 hd14 e14 he14 => ?_⟩
    obtain ⟨g14, x14⟩ := excMk (T := Tb) (K := K) (C := "InvalidText") (v := .str "") hd14 he14
    generalize upd (upd Cm2 d14 (.xd [("value", .str "")])) e14 (exT e14 (.ref (He.ga K "InvalidText")) (some d14)) = B14 at g14 x14 ⊢
    have x1 := x1.gr g14
    have x2 := x2.gr g14
    have x3 := x3.gr g14
    have x4 := x4.gr g14
    have x5 := x5.gr g14
    have x6 := x6.gr g14
    have x7 := x7.gr g14
    have x8 := x8.gr g14
    have x9 := x9.gr g14
    have x10 := x10.gr g14
    have x11 := x11.gr g14
    have x12 := x12.gr g14
    have x13 := x13.gr g14
    have G14 := GCm2.trans g14
    clear hd14 he14
    have ph := g14.at ph .lst
    refine ⟨m2, _, _, rfl, rfl, ph, by show 13 < sizeLine; decide, ?_⟩
    have gz := G14.mut nwm2 ph .lst (o := .lst ([.ref e1, .ref e2, .ref e3, .ref e4, .ref e5, .ref e6, .ref e7, .ref e8, .ref e9, .ref e10, .ref e11, .ref e12, .ref e13] ++ [.ref e14]))
    have made : ExPair K (upd B14 m2 (.lst ([.ref e1, .ref e2, .ref e3, .ref e4, .ref e5, .ref e6, .ref e7, .ref e8, .ref e9, .ref e10, .ref e11, .ref e12, .ref e13] ++ [.ref e14]))) excQ [.ref e1, .ref e2, .ref e3, .ref e4, .ref e5, .ref e6, .ref e7, .ref e8, .ref e9, .ref e10, .ref e11, .ref e12, .ref e13, .ref e14] := .cons ⟨e1, rfl, x1.mut ph⟩ (.cons ⟨e2, rfl, x2.mut ph⟩ (.cons ⟨e3, rfl, x3.mut ph⟩ (.cons ⟨e4, rfl, x4.mut ph⟩ (.cons ⟨e5, rfl, x5.mut ph⟩ (.cons ⟨e6, rfl, x6.mut ph⟩ (.cons ⟨e7, rfl, x7.mut ph⟩ (.cons ⟨e8, rfl, x8.mut ph⟩ (.cons ⟨e9, rfl, x9.mut ph⟩ (.cons ⟨e10, rfl, x10.mut ph⟩ (.cons ⟨e11, rfl, x11.mut ph⟩ (.cons ⟨e12, rfl, x12.mut ph⟩ (.cons ⟨e13, rfl, x13.mut ph⟩ (.cons ⟨e14, rfl, x14.mut ph⟩ (.nil))))))))))))))
    have pm : (upd B14 m2 (.lst ([.ref e1, .ref e2, .ref e3, .ref e4, .ref e5, .ref e6, .ref e7, .ref e8, .ref e9, .ref e10, .ref e11, .ref e12, .ref e13] ++ [.ref e14]))) m2 = some (.lst [.ref e1, .ref e2, .ref e3, .ref e4, .ref e5, .ref e6, .ref e7, .ref e8, .ref e9, .ref e10, .ref e11, .ref e12, .ref e13, .ref e14]) := upd_same
    have lm14 : ([.ref e1, .ref e2, .ref e3, .ref e4, .ref e5, .ref e6, .ref e7, .ref e8, .ref e9, .ref e10, .ref e11, .ref e12, .ref e13, .ref e14] : List V).length = 14 := rfl
    generalize upd B14 m2 (.lst ([.ref e1, .ref e2, .ref e3, .ref e4, .ref e5, .ref e6, .ref e7, .ref e8, .ref e9, .ref e10, .ref e11, .ref e12, .ref e13] ++ [.ref e14])) = D0 at gz made pm ⊢
    generalize [V.ref e1, V.ref e2, V.ref e3, V.ref e4, V.ref e5, V.ref e6, V.ref e7, V.ref e8, V.ref e9, V.ref e10, V.ref e11, V.ref e12, V.ref e13, V.ref e14] = es at made pm lm14
    clear ph nwm2 x1 x2 x3 x4 x5 x6 x7 x8 x9 x10 x11 x12 x13 x14 g1 g2 g3 g4 g5 g6 g7 g8 g9 g10 g11 g12 g13 g14
    refine ⟨by show 6 ≤ sizeLine; decide, fun n1 hn1 => ?_⟩
    have gn := Gr.new (T := Tb) (o := .lst [.str "InvalidCatalogue", .str "InvalidStock", .str "InvalidSplits", .str "InvalidStep", .str "InvalidNumber", .str "TooManySteps"]) hn1
    have pn1 : (upd D0 n1 (.lst [.str "InvalidCatalogue", .str "InvalidStock", .str "InvalidSplits", .str "InvalidStep", .str "InvalidNumber", .str "TooManySteps"])) n1 = some (.lst [.str "InvalidCatalogue", .str "InvalidStock", .str "InvalidSplits", .str "InvalidStep", .str "InvalidNumber", .str "TooManySteps"]) := upd_same
    have pm := gn.at pm .lst
    have made := ExPair.gr made gn
    have gz := gz.trans gn
    generalize upd D0 n1 (.lst [.str "InvalidCatalogue", .str "InvalidStock", .str "InvalidSplits", .str "InvalidStep", .str "InvalidNumber", .str "TooManySteps"]) = D1 at gz made pn1 pm ⊢
    clear gn hn1
    refine ⟨_, rfl, by show 6 ≤ sizeLine; decide, fun n2 hn2 => ?_⟩
    have gn := Gr.new (T := Tb) (o := .lst [.str "InvalidText", .str "InvalidCatalogue", .str "InvalidStock", .str "TooManySteps", .str "InvalidSplits", .str "InvalidStep"]) hn2
    have pn2 : (upd D1 n2 (.lst [.str "InvalidText", .str "InvalidCatalogue", .str "InvalidStock", .str "TooManySteps", .str "InvalidSplits", .str "InvalidStep"])) n2 = some (.lst [.str "InvalidText", .str "InvalidCatalogue", .str "InvalidStock", .str "TooManySteps", .str "InvalidSplits", .str "InvalidStep"]) := upd_same
    have pm := gn.at pm .lst
    have pn1 := gn.at pn1 .lst
    have made := ExPair.gr made gn
    have gz := gz.trans gn
    generalize upd D1 n2 (.lst [.str "InvalidText", .str "InvalidCatalogue", .str "InvalidStock", .str "TooManySteps", .str "InvalidSplits", .str "InvalidStep"]) = D2 at gz made pn2 pm pn1 ⊢
    clear gn hn2
    refine ⟨n1, n2, _, _, rfl, rfl, pn1, pn2, by show 6 + 6 ≤ sizeLine; decide, fun n3 hn3 => ?_⟩
    have gn := Gr.new (T := Tb) (o := .lst ([.str "InvalidCatalogue", .str "InvalidStock", .str "InvalidSplits", .str "InvalidStep", .str "InvalidNumber", .str "TooManySteps"] ++ [.str "InvalidText", .str "InvalidCatalogue", .str "InvalidStock", .str "TooManySteps", .str "InvalidSplits", .str "InvalidStep"])) hn3
    have pn3 : (upd D2 n3 (.lst ([.str "InvalidCatalogue", .str "InvalidStock", .str "InvalidSplits", .str "InvalidStep", .str "InvalidNumber", .str "TooManySteps"] ++ [.str "InvalidText", .str "InvalidCatalogue", .str "InvalidStock", .str "TooManySteps", .str "InvalidSplits", .str "InvalidStep"]))) n3 = some (.lst [.str "InvalidCatalogue", .str "InvalidStock", .str "InvalidSplits", .str "InvalidStep", .str "InvalidNumber", .str "TooManySteps", .str "InvalidText", .str "InvalidCatalogue", .str "InvalidStock", .str "TooManySteps", .str "InvalidSplits", .str "InvalidStep"]) := upd_same
    have pm := gn.at pm .lst
    have made := ExPair.gr made gn
    have gz := gz.trans gn
    generalize upd D2 n3 (.lst ([.str "InvalidCatalogue", .str "InvalidStock", .str "InvalidSplits", .str "InvalidStep", .str "InvalidNumber", .str "TooManySteps"] ++ [.str "InvalidText", .str "InvalidCatalogue", .str "InvalidStock", .str "TooManySteps", .str "InvalidSplits", .str "InvalidStep"])) = D3 at gz made pn3 pm ⊢
    clear gn hn3
    refine ⟨_, rfl, by show 2 ≤ sizeLine; decide, fun n4 hn4 => ?_⟩
    have gn := Gr.new (T := Tb) (o := .lst [.str "InvalidNumber", .str "InvalidText"]) hn4
    have pn4 : (upd D3 n4 (.lst [.str "InvalidNumber", .str "InvalidText"])) n4 = some (.lst [.str "InvalidNumber", .str "InvalidText"]) := upd_same
    have pm := gn.at pm .lst
    have pn3 := gn.at pn3 .lst
    have made := ExPair.gr made gn
    have gz := gz.trans gn
    generalize upd D3 n4 (.lst [.str "InvalidNumber", .str "InvalidText"]) = D4 at gz made pn4 pm pn3 ⊢
    clear gn hn4
    refine ⟨n3, n4, _, _, rfl, rfl, pn3, pn4, by show 12 + 2 ≤ sizeLine; decide, fun n5 hn5 => ?_⟩
    have gn := Gr.new (T := Tb) (o := .lst ([.str "InvalidCatalogue", .str "InvalidStock", .str "InvalidSplits", .str "InvalidStep", .str "InvalidNumber", .str "TooManySteps", .str "InvalidText", .str "InvalidCatalogue", .str "InvalidStock", .str "TooManySteps", .str "InvalidSplits", .str "InvalidStep"] ++ [.str "InvalidNumber", .str "InvalidText"])) hn5
    have pn5 : (upd D4 n5 (.lst ([.str "InvalidCatalogue", .str "InvalidStock", .str "InvalidSplits", .str "InvalidStep", .str "InvalidNumber", .str "TooManySteps", .str "InvalidText", .str "InvalidCatalogue", .str "InvalidStock", .str "TooManySteps", .str "InvalidSplits", .str "InvalidStep"] ++ [.str "InvalidNumber", .str "InvalidText"]))) n5 = some (.lst [.str "InvalidCatalogue", .str "InvalidStock", .str "InvalidSplits", .str "InvalidStep", .str "InvalidNumber", .str "TooManySteps", .str "InvalidText", .str "InvalidCatalogue", .str "InvalidStock", .str "TooManySteps", .str "InvalidSplits", .str "InvalidStep", .str "InvalidNumber", .str "InvalidText"]) := upd_same
    have pm := gn.at pm .lst
    have made := ExPair.gr made gn
    have gz := gz.trans gn
    generalize upd D4 n5 (.lst ([.str "InvalidCatalogue", .str "InvalidStock", .str "InvalidSplits", .str "InvalidStep", .str "InvalidNumber", .str "TooManySteps", .str "InvalidText", .str "InvalidCatalogue", .str "InvalidStock", .str "TooManySteps", .str "InvalidSplits", .str "InvalidStep"] ++ [.str "InvalidNumber", .str "InvalidText"])) = D5 at gz made pn5 pm ⊢
    clear gn hn5
    refine ⟨_, rfl, _, rfl, by show 14 ≤ sizeLine; decide, fun vl hvl => ?_⟩
    have gn := Gr.new (T := Tb) (o := .lst [.int 3, .str "a", .str "b", .int 0, .int (-1), .int 7, .str "x", .int 0, .str "", .int 0, .str "c", .int 2, .int (-5), .str ""]) hvl
    have pvl : (upd D5 vl (.lst [.int 3, .str "a", .str "b", .int 0, .int (-1), .int 7, .str "x", .int 0, .str "", .int 0, .str "c", .int 2, .int (-5), .str ""])) vl = some (.lst [.int 3, .str "a", .str "b", .int 0, .int (-1), .int 7, .str "x", .int 0, .str "", .int 0, .str "c", .int 2, .int (-5), .str ""]) := upd_same
    have pm := gn.at pm .lst
    have pn5 := gn.at pn5 .lst
    have made := ExPair.gr made gn
    have gz := gz.trans gn
    generalize upd D5 vl (.lst [.int 3, .str "a", .str "b", .int 0, .int (-1), .int 7, .str "x", .int 0, .str "", .int 0, .str "c", .int 2, .int (-5), .str ""]) = D6 at gz made pvl pm pn5 ⊢
    clear gn hvl
    have en : [.str "InvalidCatalogue", .str "InvalidStock", .str "InvalidSplits", .str "InvalidStep", .str "InvalidNumber", .str "TooManySteps", .str "InvalidText", .str "InvalidCatalogue", .str "InvalidStock", .str "TooManySteps", .str "InvalidSplits", .str "InvalidStep", .str "InvalidNumber", .str "InvalidText"] = excQ.map (fun q => V.str q.1) := rfl
    have ev : [.int 3, .str "a", .str "b", .int 0, .int (-1), .int 7, .str "x", .int 0, .str "", .int 0, .str "c", .int 2, .int (-5), .str ""] = excQ.map (fun q => q.2) := rfl
    rw [en] at pn5
    rw [ev] at pvl
    clear en ev
    -- the base class
    refine fun eb heb => ?_
    have gb := Gr.new (T := Tb) (o := exT eb (.ref (He.ga K "StoreError")) none) heb
    have xb : ExAt (upd D6 eb (exT eb (.ref (He.ga K "StoreError")) none)) eb (He.ga K "StoreError") none := ⟨upd_same, .inl rfl⟩
    have pm := gb.at pm .lst
    have pn5 := gb.at pn5 .lst
    have pvl := gb.at pvl .lst
    have made := ExPair.gr made gb
    have gz := gz.trans gb
    generalize upd D6 eb (exT eb (.ref (He.ga K "StoreError")) none) = D7 at gz made pm pn5 pvl xb ⊢
    have se := seB_ok T.se
    refine ⟨_, rfl, by show 6 ≤ sizeLine; decide, fun tp htp => ?_⟩
    have gt := Gr.new (T := Tb) (o := .tup [.ref (He.ga K "InvalidCatalogue"), .ref (He.ga K "InvalidNumber"), .ref (He.ga K "InvalidSplits"), .ref (He.ga K "InvalidStep"), .ref (He.ga K "InvalidStock"), .ref (He.ga K "InvalidText")]) htp
    have xt : ExAt _ eb (He.ga K "StoreError") none := ⟨gt.ext eb _ xb.1 exT_ntb, .inl rfl⟩
    refine ⟨eb, _, none, tp, _, _, false, rfl, upd_same, xt, se.xf, .cons (.own _) (.cons (.own _) (.cons (.own _) (.cons (.own _) (.cons (.own _) (.cons (.own _) .nil))))), kitAny_no (fun u hu => ?_), _, rfl, iteFb rfl ?_⟩
    · simp only [List.mem_cons, List.not_mem_nil, or_false] at hu
      rcases hu with rfl | rfl | rfl | rfl | rfl | rfl
      · exact se.ki "InvalidCatalogue" (by decide)
      · exact se.ki "InvalidNumber" (by decide)
      · exact se.ki "InvalidSplits" (by decide)
      · exact se.ki "InvalidStep" (by decide)
      · exact se.ki "InvalidStock" (by decide)
      · exact se.ki "InvalidText" (by decide)
    refine ⟨_, rfl, eb, _, none, _, _, false, rfl, xt, se.xf, .own _, se.ki "TooManySteps" (by decide), _, rfl, iteFb rfl ?_⟩
    have pm := gt.at pm .lst
    have pn5 := gt.at pn5 .lst
    have pvl := gt.at pvl .lst
    have made := ExPair.gr made gt
    have gz := gz.trans gt
    generalize upd D7 tp _ = D8 at gz made pm pn5 pvl ⊢
    have flen : excQ.length = 14 := rfl
    refine ⟨_, rfl, m2, rfl, ⟨_, SqL.of pm⟩, fun D hD => lc_list (K := K) (a := m2) (xs := es) (fun i H' => Gr Tb D8 H' ∧ ∃ ys, H' D = some (.lst ys) ∧ ys.length = i ∧ Paired (RowQ H' D) (excQ.take i) ys) ⟨Gr.new hD, [], upd_same, rfl, .nil⟩ (fun i H' _ h => SqL.of (h.1.at pm .lst)) (fun i x H' hx h => ?_) (fun H9 h => ?_)⟩
    · obtain ⟨g, ys, hd, yl, pr⟩ := h
      obtain ⟨q, hq, e, rfl, hxv⟩ := Paired.at (Paired.flip made) hx
      have hi := (List.getElem?_eq_some_iff.mp hx).1
      refine ⟨rfl, _, rfl, e, q.1, q.2, rfl, (vD_ok (K := K) (H := H') q (List.mem_of_getElem? hq)).2, hxv.gr g, fun r H4 g4 nw hr4 => ⟨ys, g4.at hd .lst, by rw [sizeLine_eq]; omega, ?_⟩⟩
      have rD : r ≠ D := fun z => by
        obtain ⟨ps, e⟩ := nw _ (z ▸ hd)
        cases e
      refine ⟨Gr.put hD (g.trans g4) (g4.at hd .lst), ys ++ [.ref r], upd_same, by rw [List.length_append, yl]; rfl, ?_⟩
      rw [take_snoc hq]
      exact paired_snoc2 (Paired.imp (fun _ _ ⟨r', e1, e2, e3⟩ => ⟨r', e1, e2, by rw [upd_ne e2]; exact g4.at e3 .lst⟩) pr) ⟨r, rfl, rD, by rw [upd_ne rD]; exact hr4⟩
    obtain ⟨g9, ys, hd9, yl, pr⟩ := h
    rw [lm14, ← flen, List.take_length] at pr
    have gz := gz.trans g9
    have pn5 := g9.at pn5 .lst
    have pvl := g9.at pvl .lst
    refine ⟨14, rfl, by decide, by decide, fun D2 hD2 => lc_range (lo := 0) (n := 14) (fun i H' => Gr Tb H9 H' ∧ ∃ zs, H' D2 = some (.lst zs) ∧ zs.length = i ∧ Paired (RowQ H' D2) (excQ.take i) zs) ⟨Gr.new hD2, [], upd_same, rfl, .nil⟩ (fun i H' hi h => ?_) (fun H10 h => ?_)⟩
    · obtain ⟨g, zs, hd, zl, pz⟩ := h
      obtain ⟨q, hq⟩ : ∃ q, excQ[i]? = some q := ⟨_, List.getElem?_eq_getElem (by omega)⟩
      have e0 : (0 : Int) + (i : Int) = (i : Int) := by omega
      have h1 : (excQ.map (fun q => V.str q.1))[i]? = some (V.str q.1) := by rw [List.getElem?_map, hq]; rfl
      have h2 : (excQ.map (fun q => q.2))[i]? = some q.2 := by rw [List.getElem?_map, hq]; rfl
      refine ⟨rfl, _, rfl, _, rfl, n5, _, _, _, rfl, rfl, SqL.of (g.at pn5 .lst), by rw [e0]; exact atI_nat h1, _, rfl, _, rfl, vl, _, _, _, rfl, rfl, SqL.of (g.at pvl .lst), by rw [e0]; exact atI_nat h2, by show 3 ≤ sizeLine; decide, fun r hr => ⟨zs, ?_, by rw [sizeLine_eq]; omega, ?_⟩⟩
      · rw [upd_ne (ne_of_none hd hr)]
        exact hd
      have rD : r ≠ D2 := fun z => by rw [z, hd] at hr; cases hr
      have gr := Gr.new (T := Tb) (o := .lst [.str q.1, q.2, .bl true]) hr
      refine ⟨Gr.put hD2 (g.trans gr) (gr.at hd .lst), zs ++ [.ref r], upd_same, by rw [List.length_append, zl]; rfl, ?_⟩
      rw [take_snoc hq]
      exact paired_snoc2 (Paired.imp (fun _ _ ⟨r', e1, e2, e3⟩ => ⟨r', e1, e2, by rw [upd_ne e2]; exact gr.at e3 .lst⟩) pz) ⟨r, rfl, rD, by rw [upd_ne rD]; exact upd_same⟩
    obtain ⟨g10, zs, hd10, zl, pz⟩ := h
    rw [show excQ.take 14 = excQ from rfl] at pz
    have dl : Dp K H10 (.ref D) (.list (excQ.map qD)) := .lst (SqL.of (g10.at hd9 .lst)) (rowsQ_dp (fun q hq => (vD_ok q hq).1) (Paired.imp (fun _ _ ⟨r', e1, e2, e3⟩ => ⟨r', e1, e2, g10.at e3 .lst⟩) pr))
    have dr : Dp K H10 (.ref D2) (.list (excQ.map qD)) := .lst (SqL.of hd10) (rowsQ_dp (fun q hq => (vD_ok q hq).1) pz)
    refine ⟨_, _, dl, dr, by decide +kernel, by decide +kernel, ?_⟩
    rw [show PyData.eqv (.list (excQ.map qD)) (.list (excQ.map qD)) = true from by decide +kernel]
    exact k _ (gz.trans g10)
end
end Sk
namespace Sk
open PySem PySem.Spec PyProof.Rows L2
abbrev s_law : Stmt := topS 39
abbrev N_law : List Str := ["script", "source", "k", "turn", "entries", "time", "bad", "saved", "wanted", "door", "other"]
theorem sc_law : FnScope N_law ["script"] (defScope s_law) := ⟨rfl, rfl, rfl, by decide +kernel, rfl, by decide +kernel, by decide +kernel⟩
def sp_law (Tb : List (Addr × Str)) (K : PySem.W.Frag) : Sp := fun vs H Q _ => ∃ (a : Addr) (ns : List Int), vs = [.ref a] ∧ SqL K H a (ns.map V.int) ∧ ns.length ≤ 63 ∧ LamX.Tabs Tb H ∧ ∀ H', Q (.bl true) H'
theorem R2.uniq {es : List Ent} {o o' : Option (Str × PyData)} (h : R2 es o) (h' : R2 es o') : o = o' := by
  cases o with
  | none =>
    cases o' with
    | none => rfl
    | some q =>
      obtain ⟨C, d⟩ := q
      obtain ⟨rfl, i, rfl, h2⟩ := h'
      exact (h2.notValid h).elim
  | some q =>
    obtain ⟨C, d⟩ := q
    obtain ⟨rfl, i, rfl, h1⟩ := h
    cases o' with
    | none => exact (h1.notValid h').elim
    | some q =>
      obtain ⟨C', d'⟩ := q
      obtain ⟨rfl, j, rfl, h2⟩ := h'
      rw [h1.uniq h2]
theorem R2.shal {es : List Ent} {o : Option (Str × PyData)} (h : R2 es o) : (outD o).depth < 5 ∧ cnt (outD o) ≤ 16000000 := outD_shal fun C d e => by
  subst e
  obtain ⟨_, i, rfl, _⟩ := h
  exact .inr ⟨_, rfl⟩
theorem nm_sized {m : Nat} {es : List Ent} (hm : m ≤ 1000) (hl : es.length ≤ 1000) (h : ∀ e ∈ es, NmE m e) : Sized es := ⟨by omega, fun e he => ⟨Nat.le_trans (h e he).name.1 (by omega), Nat.le_trans (h e he).fewp (by omega)⟩⟩
theorem shown_tx {m : Nat} {x : Str} (h : TxtOk m x) : (PyData.str x).shown.length ≤ 10 * m + 2 := by
  have := StrLaws.reprText_len x fun c hc => Nat.lt_trans (h.2 c hc) (by decide)
  rw [PyData.shown]
  have := h.1
  omega
theorem NmE.shw {e : Ent} (h : NmE 12 e) (hw : e.w.natAbs < 10 ^ 100) : (entD e).showable = true ∧ (entD e).shown.length ≤ 3000 := by
  have h3 := h.fewp
  have hl : (PyData.list (e.parts.map PyData.str)).shown.length ≤ 900 := by
    have := shown_list (ds := e.parts.map PyData.str) (m := 122) fun d hd => by
      obtain ⟨p, hp, rfl⟩ := List.mem_map.mp hd
      exact shown_tx (h.parts p hp)
    rw [List.length_map] at this
    omega
  refine ⟨?_, ?_⟩
  · unfold entD
    rw [PyData.showable]
    refine showAll fun d hd => ?_
    rcases List.mem_cons.mp hd with rfl | hd
    · rfl
    rcases List.mem_cons.mp hd with rfl | hd
    · exact show_int hw
    rw [List.mem_singleton.mp hd, PyData.showable]
    exact showAll fun d hd => by
      obtain ⟨p, hp, rfl⟩ := List.mem_map.mp hd
      rfl
  · unfold entD
    refine Nat.le_trans (shown_tuple (m := 950) fun d hd => ?_) (by show 3 * (950 + 2) + 3 ≤ 3000; decide)
    rcases List.mem_cons.mp hd with rfl | hd
    · exact Nat.le_trans (shown_tx h.name) (by decide)
    rcases List.mem_cons.mp hd with rfl | hd
    · exact Nat.le_trans (shown_int hw) (by decide)
    rw [List.mem_singleton.mp hd]
    omega
theorem nm_shw {es : List Ent} (h : ∀ e ∈ es, NmE 12 e ∧ e.w.natAbs < 10 ^ 100) (hz : es.length ≤ 1000) : (catD es).showable = true ∧ (catD es).shown.length ≤ sizeLine := by
  refine ⟨?_, ?_⟩
  · unfold catD
    rw [PyData.showable]
    exact showAll fun d hd => by
      obtain ⟨e, he, rfl⟩ := List.mem_map.mp hd
      exact ((h e he).1.shw (h e he).2).1
  · unfold catD
    have := shown_list (ds := es.map entD) (m := 3000) fun d hd => by
      obtain ⟨e, he, rfl⟩ := List.mem_map.mp hd
      exact ((h e he).1.shw (h e he).2).2
    rw [List.length_map] at this
    rw [sizeLine_eq]
    have h2 : es.length * 3002 ≤ 1000 * 3002 := Nat.mul_le_mul_right _ hz
    omega
section
variable {P : Program} {w : World} {K : PySem.W.Frag} {mg : Str → Option Value} {base : Heap} {Tb : List (Addr × Str)}
theorem ok_law {f : Addr} {fd : FuncData} (F : FnP K "law" s_law f fd) (T : Tx K mg) (G_law_bad_entry : Fn P w K mg base "_law_bad_entry" 2 ["entries"] (sp_law_bad_entry Tb K)) (G_law_classes_right : Fn P w K mg base "_law_classes_right" 3 [] (sp_law_classes_right Tb K)) (G_law_draw : Fn P w K mg base "_law_draw" 1 ["source", "many"] (sp_law_draw Tb K)) (G_law_entries : Fn P w K mg base "_law_entries" 4 ["source", "most"] (sp_law_entries Tb K)) (G_law_raised : Fn P w K mg base "_law_raised" 8 ["door", "entries", "other"] (sp_law_raised Tb K)) (G_law_same : Fn P w K mg base "_law_same" 5 ["found", "wanted"] (sp_law_same Tb K)) (G_law_source : Fn P w K mg base "_law_source" 1 ["script"] (sp_law_source Tb K)) (G_law_spoilt : Fn P w K mg base "_law_spoilt" 2 ["source", "entries"] (sp_law_spoilt Tb K)) : FnG P w K mg base 9 f fd ["script"] (sp_law Tb K) := by
  refine fnG_of F sc_law (fun vs H Q E h => ?_) (fun cdv A outer s H vs Q E hgd hr h => ?_)
  · obtain ⟨_, _, rfl, _⟩ := h
    rfl
  · obtain ⟨a, ns, rfl, ha, hz, ht, k⟩ := h
    refine ⟨_, PSs.nox (pss_cons (ps_set (i := 1) sc_law.nd rfl (Or.inl rfl) (pe_fn G_law_source (hr.mono (by decide)) (pa_cons (pv 0) pa_nil)))
      (pss_cons (ps_if (pt_not (pt_val (pe_fn0 G_law_classes_right (hr.mono (by decide))))) (pss_one (ps_ret pe_bl)) pss_nil)
      (pss_cons (ps_for PassesOwn.never rfl (pi_range1 (by rfl) T.n_range (pa_cons (pe_op op_add pe_int (pe_callB (call_min2 rfl) (by rfl) T.n_min (by decide +kernel) (pa_cons pe_int (pa_cons (pe_callB (lenS (K := K) rfl) (by rfl) T.n_len (by decide +kernel) (pa_cons (pv 0) pa_nil)) pa_nil)))) pa_nil)) (pg_name (i := 2) sc_law.nd rfl (Or.inl rfl)) (pss_one (ps_for PassesOwn.never rfl (pi_range1 (by rfl) T.n_range (pa_cons pe_int pa_nil)) (pg_name (i := 3) sc_law.nd rfl (Or.inl rfl)) (pss_cons (ps_set (i := 4) sc_law.nd rfl (Or.inl rfl) (pe_fn G_law_entries (hr.mono (by decide)) (pa_cons (pv 1) (pa_cons (pe_ix (ixL (K := K) rfl) (pe_lst (pa_cons pe_int (pa_cons pe_int pa_nil))) (pe_fn G_law_draw (hr.mono (by decide)) (pa_cons (pv 1) (pa_cons pe_int pa_nil))) (fun _ _ => rfl)) pa_nil))))
          (pss_cons (ps_for PassesOwn.never rfl (pi_range1 (by rfl) T.n_range (pa_cons (pe_op op_add pe_int (pe_fn G_law_draw (hr.mono (by decide)) (pa_cons (pv 1) (pa_cons pe_int pa_nil)))) pa_nil)) (pg_name (i := 5) sc_law.nd rfl (Or.inl rfl)) (pss_one (ps_set (i := 4) sc_law.nd rfl (Or.inl rfl) (pe_ifExp (pt_cmpR (opNeNil (K := K) rfl hr.units) (pv 4) (pe_lst pa_nil) (nomark _)) (pe_fn G_law_spoilt (hr.mono (by decide)) (pa_cons (pv 1) (pa_cons (pv 4) pa_nil))) (pv 4)))))
          (pss_cons (ps_set (i := 4) sc_law.nd rfl (Or.inl rfl) (pe_slice (slL (K := K) rfl) (pv 4) po_none (po_some pe_int)))
          (pss_cons (ps_set (i := 6) sc_law.nd rfl (Or.inl rfl) (pe_fn G_law_bad_entry (hr.mono (by decide)) (pa_cons (pv 4) pa_nil)))
          (pss_cons (ps_set (i := 7) sc_law.nd rfl (Or.inl rfl) (pe_callB (crRepr (K := K) rfl hgd hr.units) (by rfl) T.n_repr (by decide +kernel) (pa_cons (pv 4) pa_nil)))
          (pss_cons (ps_set (i := 8) sc_law.nd rfl (Or.inl rfl) (pe_ifExp (pt_cmpR op_isN (pv 6) pe_non (nomark _)) pe_non (pe_lst (pa_cons pe_str (pa_cons (pv 6) (pa_cons pe_bl pa_nil))))))
          (pss_cons (ps_if (pt_not (pt_val (pe_fn G_law_same (hr.mono (by decide)) (pa_cons (pe_fn G_law_raised (hr.mono (by decide)) (pa_cons pe_int (pa_cons (pv 4) (pa_cons pe_dnewK pa_nil)))) (pa_cons (pv 8) pa_nil))))) (pss_one (ps_ret pe_bl)) pss_nil)
          (pss_cons (ps_for PassesOwn.never rfl (pi_range2 (by rfl) T.n_range (pa_cons pe_int (pa_cons pe_int pa_nil))) (pg_name (i := 9) sc_law.nd rfl (Or.inl rfl)) (pss_cons (ps_set (i := 10) sc_law.nd rfl (Or.inl rfl) (pe_ifExp (pt_cmpR op_notN (pv 6) pe_non (nomark _)) (pe_ix (ixL (K := K) rfl) (pe_lst (pa_cons pe_dnewK (pa_cons (pe_disp (pps_cons pe_str (pe_un un_neg pe_int) pps_nil) (by rfl) (by rfl) (fun z => by cases z) (by decide)) pa_nil))) (pe_fn G_law_draw (hr.mono (by decide)) (pa_cons (pv 1) (pa_cons pe_int pa_nil))) (fun _ _ => rfl)) pe_dnewK))
            (pss_one (ps_if (pt_not (pt_val (pe_fn G_law_same (hr.mono (by decide)) (pa_cons (pe_fn G_law_raised (hr.mono (by decide)) (pa_cons (pv 9) (pa_cons (pv 4) (pa_cons (pv 10) pa_nil)))) (pa_cons (pv 8) pa_nil))))) (pss_one (ps_ret pe_bl)) pss_nil))))
          (pss_one (ps_if (pt_cmpR op_ne (pe_callB (crRepr (K := K) rfl hgd hr.units) (by rfl) T.n_repr (by decide +kernel) (pa_cons (pv 4) pa_nil)) (pv 7) (nomark _)) (pss_one (ps_ret pe_bl)) pss_nil)))))))))))))
      (pss_one (ps_ret (pe_cmpR (opEqD (K := K) rfl hr.units) (pe_fn G_law_raised (hr.mono (by decide)) (pa_cons pe_int (pa_cons (pe_lst pa_nil) (pa_cons pe_dnewK pa_nil)))) (pe_lst (pa_cons pe_str (pa_cons pe_int (pa_cons pe_bl pa_nil)))) (nomark _))))))), ?_⟩
    refine ⟨_, rfl, a, ns, fun _ => none, rfl, ha, hz, .emp, ht, fun p H1 hs g1 => ?_⟩
    refine ⟨rfl, hs.tab, fun H2 g2 => ⟨true, rfl, iteF ?_⟩⟩
    have hs := hs.gr g2
    have g1 := g1.trans g2
    have hlen : ((ns.map V.int).length : Int) ≤ 63 := by
      rw [List.length_map]
      omega
    have hn11 : ∀ l : Int, (3 + (if l < 8 then l else 8)) ≤ 11 := fun l => by split <;> omega
    have hn11' : ∀ l : Int, 0 ≤ l → 0 ≤ (3 + (if l < 8 then l else 8)) := fun l h => by split <;> omega
    have hk11 := hn11 ((ns.map V.int).length : Int)
    have hk11' := hn11' ((ns.map V.int).length : Int) (by omega)
    refine ⟨_, rfl, a, _, rfl, .inl (g1.ext_seq ha), _, _, rfl, _, _, rfl, rfl, _, rfl, ?_, ?_, for_range (lo := 0) (n := (3 + (if ((ns.map V.int).length : Int) < 8 then ((ns.map V.int).length : Int) else 8)).toNat)
      (fun i σ H' => ∃ (G : Hp) (s2 s3 s4 s5 s6 s7 s8 s9 s10 : Option V), σ = [some (.ref a), some (.ref p), s2, s3, s4, s5, s6, s7, s8, s9, s10] ∧ Hs Tb p (12000 * i) [] G H')
      ⟨_, none, none, none, none, none, none, none, none, none, rfl, hs⟩ ?_ (fun σ H' h => ?_)⟩
    · show -(2 ^ 62) ≤ 3 + (if ((ns.map V.int).length : Int) < 8 then ((ns.map V.int).length : Int) else 8)
      omega
    · show 3 + (if ((ns.map V.int).length : Int) < 8 then ((ns.map V.int).length : Int) else 8) < 2 ^ 62
      omega
    · clear hs g1 ha hlen hn11 hn11'
      rintro i σ H2 hi ⟨G, s2, s3, s4, s5, s6, s7, s8, s9, s10, rfl, hs2⟩
      have hi11 : i < 11 := by omega
      clear hk11 hk11' hi ht g2
      refine ⟨_, rfl, by decide, by decide, for_range (lo := 0) (n := 5)
        (fun j σ H' => ∃ (G : Hp) (s2 s3 s4 s5 s6 s7 s8 s9 s10 : Option V), σ = [some (.ref a), some (.ref p), s2, s3, s4, s5, s6, s7, s8, s9, s10] ∧ Hs Tb p (12000 * i + 2000 * j) [] G H')
        ⟨_, _, _, _, _, _, _, _, _, _, rfl, hs2⟩ ?_ (fun σ H' h => ?_)⟩
      · clear hs2 G H2 s2 s3 s4 s5 s6 s7 s8 s9 s10
        rintro j σ H2 hj ⟨G, s2, s3, s4, s5, s6, s7, s8, s9, s10, rfl, hs2⟩
        -- entries
        refine ⟨_, rfl, by show 2 ≤ sizeLine; decide, fun l hl => ?_⟩
        refine ⟨_, rfl, p, _, _, G, 2, rfl, hs2.new hl .lst, by omega, by decide, by decide, fun d H3 d0 d1 h3 => ?_⟩
        obtain ⟨most, em, m1, m2⟩ := pick_int (P := fun i => 1 ≤ i ∧ i ≤ 20) [3, 20] rfl d0 d1 (by decide)
        refine ⟨l, _, d, .int most, rfl, rfl, SqL.of (h3.get (i := 0) rfl), em, p, _, _, G, most, rfl, h3.drop1, by omega, m1, by omega, fun r H4 G4 ys es gs hc hpn hm hle h4 => ?_⟩
        have hyl := Paired.len hc
        have h4f := h4.freeze
        have cr := h4.cfree
        have hcF : CatAt (upd G4 r (.lst ys)) ys es := hc.mono (Same.upd cr)
        have hGr : upd G4 r (.lst ys) r = some (.lst ys) := upd_same
        have b0 : ∀ e ∈ es, NmE 9 e ∧ e.w.natAbs ≤ 10 ^ 13 := fun e he => by
          have h1 := hm.wt e he
          have h2 := hm.v.pos e he
          have tx : ∀ x : Str, nameB x = true → TxtOk 9 x := fun x hx => by
            refine ⟨Nat.le_trans (len_ok hx) (by decide), fun c hc => ?_⟩
            unfold nameB at hx
            simp only [Bool.and_eq_true, decide_eq_true_eq, List.all_eq_true] at hx
            have h3 : ∀ c ∈ letters.cps.toList, c < 0x110000 := by decide +kernel
            exact h3 c (hx.2.2 c hc)
          exact ⟨⟨tx _ (hm.v.names e he), hm.fewp e he, fun q hq => tx _ (hm.v.part he hq)⟩, by omega⟩
        have hes : es.length ≤ 20 := by omega
        generalize upd G4 r (.lst ys) = G5 at h4f hcF hGr
        clear h4 h3 hs2 em gs hc hpn hm hle cr hyl
        -- spoilt
        refine ⟨_, rfl, p, _, _, G5, 2, rfl, h4f, by omega, by decide, by decide, fun dt H5 t0 t1 h5 => ⟨_, _, rfl, rfl, 1 + dt, rfl, by omega, by omega, ?_⟩⟩
        refine for_range (lo := 0) (n := (1 + dt).toNat) (fun i' σ H' => ∃ (G' : Hp) (r' : Addr) (ys' : List V) (es' : List Ent) (s5 : Option V), σ = [some (.ref a), some (.ref p), s2, some (.int (0 + (j : Int))), some (.ref r'), s5, s6, s7, s8, s9, s10] ∧ G' r' = some (.lst ys') ∧ CatAt G' ys' es' ∧ es'.length ≤ 20 + i' ∧ (∀ e ∈ es', NmE (9 + i') e ∧ e.w.natAbs ≤ 10 ^ 13 + 5 * i') ∧ Hs Tb p (12000 * i + 2000 * j + 1010 + 100 * i') [] G' H')
          ⟨G5, r, ys, es, _, rfl, hGr, hcF, hes, b0, h5.mono (by omega)⟩ ?_ ?_
        · clear h5 h4f hGr hcF hes b0 ys es r
          rintro i' σ H' hi' ⟨G', r', ys', es', s5, rfl, hGr, hcF, hle, hb, h6⟩
          refine ⟨_, rfl, rd_nil (SqL.of (h6.fzat hGr)) fun p1 hp1 => ⟨_, rfl, ?_⟩⟩
          have h7 := h6.gr (Gr.new (T := Tb) (o := .lst []) hp1)
          have hyl := Paired.len hcF
          cases hq : ys' with
          | nil =>
            refine iteFb rfl ⟨_, rfl, ?_⟩
            exact ⟨G', r', ys', es', _, rfl, hGr, hcF, by omega, fun e he => ⟨(hb e he).1.mono (by omega), by have := (hb e he).2; omega⟩, h7.mono (by omega)⟩
          | cons y0 yl =>
            rw [hq] at hyl hcF hGr
            refine iteTb rfl ⟨_, rfl, _, rfl, p, r', _, _, G', y0 :: yl, es', 9 + i', 10 ^ 13 + 5 * i', rfl, h7, by omega, hGr, hcF, (fun z => by rw [z] at hyl; cases hyl), by omega, hb, by omega, by omega, by omega, fun r2 H8 G8 ys2 es2 sg hc2 hl2 hb2 h8 => ?_⟩
            refine ⟨upd G8 r2 (.lst ys2), r2, ys2, es2, _, rfl, upd_same, hc2.mono (Same.upd h8.cfree), by omega, fun e he => ⟨(hb2 e he).1, by have := (hb2 e he).2; omega⟩, h8.freeze.mono (by omega)⟩
        clear h5 h4f hGr hcF hes b0 ys es r
        rintro σ H6 ⟨G6, r0, ys0, es0, s5, rfl, hGr0, hc0, hle0, hb0, h6⟩
        have ht2 : (1 + dt).toNat ≤ 2 := by omega
        -- entries[:20]
        refine ⟨_, rfl, 20, rfl, r0, ys0, rfl, SqL.of (h6.fzat hGr0), fun r hr => ?_⟩
        have ec : cutV ys0 none (some 20) = ys0.take 20 := by
          rw [cut_take (by decide)]
          rfl
        obtain ⟨sG, h7⟩ := h6.fzNew hr (.lst (xs := cutV ys0 none (some 20)))
        have hGr : upd G6 r (.lst (cutV ys0 none (some 20))) r = some (.lst (ys0.take 20)) := by rw [upd_same, ec]
        have hGC : CatAt (upd G6 r (.lst (cutV ys0 none (some 20)))) (ys0.take 20) (es0.take 20) := CatAt.mono sG (paired_takeC 20 hc0)
        have hl20 : (es0.take 20).length ≤ 20 := by rw [List.length_take]; omega
        have hb : ∀ e ∈ es0.take 20, NmE 12 e ∧ e.w.natAbs < 10 ^ 100 := fun e he => by
          obtain ⟨h1, h2⟩ := hb0 e (List.mem_of_mem_take he)
          refine ⟨h1.mono (by omega), ?_⟩
          have h3 : (10 : Nat) ^ 13 + 5 * 2 < 10 ^ 100 := by decide
          omega
        generalize upd G6 r (.lst (cutV ys0 none (some 20))) = G7 at h7 hGr hGC
        generalize upd H6 r (.lst (cutV ys0 none (some 20))) = H7 at h7 ⊢
        generalize es0.take 20 = es at hGC hl20 hb
        generalize ys0.take 20 = ys at hGr hGC
        clear sG ec hr h6 hb0 hle0 hc0 hGr0 es0 ys0
        have hsz := nm_sized (m := 12) (by decide) (show es.length ≤ 1000 by omega) (fun e he => (hb e he).1)
        -- bad
        refine goN ?_
        dsimp only
        refine sq_st (fun σ H' => ∃ bv : V, σ = [some (.ref a), some (.ref p), s2, some (.int (0 + (j : Int))), some (.ref r), s5, some bv, s7, s8, s9, s10] ∧ ((bv = .non ∧ Valid es) ∨ ∃ i : Nat, bv = .int i ∧ BadCat es i) ∧ Gr Tb H7 H') (fun N hN => ?_) ?_
        · exact ⟨_, rfl, r, ys, es, rfl, SqL.of (h7.fzat hGr), hGC.mono h7.fz.sub, hsz, by omega, fun hv H' g => hN _ _ ⟨_, rfl, .inl ⟨rfl, hv⟩, g⟩, fun i H' hb g => hN _ _ ⟨_, rfl, .inr ⟨i, rfl, hb⟩, g⟩⟩
        rintro σ H8 ⟨bv, rfl, hbv, g8⟩
        have h8 := h7.gr g8
        -- saved
        have shw := nm_shw hb (by omega)
        refine ⟨_, rfl, r, catD es, rfl, dp_cat (SqL.of (h8.fzat hGr)) (hGC.mono h8.fz.sub), shw.1, shw.2, Nat.le_trans (depth_cat es) (by decide), ?_⟩
        refine goN ?_
        dsimp only
        clear shw
        refine sq_st (fun σ H' => ∃ (wv : V) (o : Option (Str × PyData)) (G8 : Hp), σ = [some (.ref a), some (.ref p), s2, some (.int (0 + (j : Int))), some (.ref r), s5, some bv, some (.str (catD es).shown), some wv, s9, s10] ∧ R2 es o ∧ Same G7 G8 ∧ (∀ H', Same G8 H' → Dp K H' wv (outD o)) ∧ Hs Tb p (12000 * i + 2000 * j + 1010 + 100 * (1 + dt).toNat) [] G8 H') (fun N hN => ?_) ?_
        · rcases hbv with ⟨rfl, hv⟩ | ⟨b, rfl, hbc⟩
          · exact ⟨_, rfl, rfl, _, rfl, iteTb rfl (hN _ _ ⟨_, none, G7, rfl, hv, fun _ _ h => h, fun _ _ => .non, h8⟩)⟩
          · refine ⟨_, rfl, rfl, _, rfl, iteFb rfl ⟨_, rfl, by show 3 ≤ sizeLine; decide, fun l5 hl5 => ?_⟩⟩
            obtain ⟨sg, h9⟩ := h8.fzNew hl5 (.lst (xs := [.str "InvalidCatalogue", .int b, .bl true]))
            exact hN _ _ ⟨_, some ("InvalidCatalogue", .int b), _, rfl, ⟨rfl, b, rfl, hbc⟩, sg, fun H' s => .lst (SqL.of (s _ _ upd_same)) (.cons (.str _) (.cons (.int b) (.cons (.bl true) .nil))), h9⟩
        rintro σ H9 ⟨wv, o, G8, rfl, ho, s78, hwv, h9⟩
        clear h8 g8 h7
        have hGr := s78 _ _ hGr
        have hGC := hGC.mono s78
        clear s78
        have bvn : bv ≠ .non → ¬ Valid es := fun hne hv => by
          rcases hbv with ⟨z, _⟩ | ⟨b, _, hbc⟩
          · exact hne z
          · exact hbc.notValid hv
        refine sq_st (fun σ H' => σ = [some (.ref a), some (.ref p), s2, some (.int (0 + (j : Int))), some (.ref r), s5, some bv, some (.str (catD es).shown), some wv, s9, s10] ∧ Hs Tb p (12000 * i + 2000 * j + 1010 + 100 * (1 + dt).toNat) [] G8 H') (fun N hN => ?_) ?_
        · refine ⟨_, rfl, fun dd hdd => ?_⟩
          have h10 := h9.gr (Gr.new (T := Tb) (o := .dK []) hdd)
          refine ⟨0, r, dd, ys, es, [], rfl, by decide, by decide, SqL.of (h10.fzat hGr), hGC.mono h10.fz.sub, upd_same, h10.tab, hsz, List.nodup_nil, by decide, fun _ => rfl, fun o2 v H10 ho2 g10 dv => ?_⟩
          have h11 := h10.gr g10
          refine ⟨_, rfl, v, wv, outD o, rfl, ?_, hwv _ h11.fz.sub, ho.shal.1, ho.shal.2, fun H11 g11 => ⟨true, rfl, iteF (hN _ _ ⟨rfl, h11.gr g11⟩)⟩⟩
          rw [ho.uniq ho2]
          exact dv
        rintro σ H10 ⟨rfl, h10⟩
        clear h9
        -- doors
        refine sq_st (fun σ H' => ∃ s9 s10 : Option V, σ = [some (.ref a), some (.ref p), s2, some (.int (0 + (j : Int))), some (.ref r), s5, some bv, some (.str (catD es).shown), some wv, s9, s10] ∧ Hs Tb p (12000 * i + 2000 * j + 1800) [] G8 H') (fun N hN => ?_) ?_
        · refine ⟨1, 4, rfl, ⟨by decide, by decide, by decide, by decide⟩, for_range (lo := 1) (n := 3) (fun i' σ H' => ∃ s9 s10 : Option V, σ = [some (.ref a), some (.ref p), s2, some (.int (0 + (j : Int))), some (.ref r), s5, some bv, some (.str (catD es).shown), some wv, s9, s10] ∧ Hs Tb p (12000 * i + 2000 * j + 1210 + 10 * i') [] G8 H') ⟨_, _, rfl, h10.mono (by omega)⟩ ?_ ?_⟩
          · rintro i' σ H11 hi' ⟨s9, s10, rfl, h11⟩
            refine sq_st (fun σ H' => ∃ (od : Addr) (st : Num), σ = [some (.ref a), some (.ref p), s2, some (.int (0 + (j : Int))), some (.ref r), s5, some bv, some (.str (catD es).shown), some wv, some (.int (1 + (i' : Int))), some (.ref od)] ∧ H' od = some (.dK (dS st)) ∧ (st.map (·.1)).Nodup ∧ st.length < 64 ∧ (Valid es → st = []) ∧ Hs Tb p (12000 * i + 2000 * j + 1210 + 10 * i' + 1) [] G8 H') (fun N2 hN2 => ?_) ?_
            · by_cases hq : bv = .non
              · refine ⟨_, rfl, rfl, _, rfl, iteFb (by rw [hq]; rfl) (fun dd hdd => ?_)⟩
                exact hN2 _ _ ⟨dd, [], rfl, upd_same, List.nodup_nil, by decide, fun _ => rfl, (h11.gr (Gr.new hdd)).mono (by omega)⟩
              · refine ⟨_, rfl, rfl, _, rfl, iteTb (by rw [decide_eq_false hq]; rfl) (fun d1 hd1 => ?_)⟩
                have h12 := h11.new hd1 (.dK (xs := []))
                intro d2 hd2
                refine ⟨_, rfl, upd_same, [(Sum.inr "unknown", .int (-1))], rfl, by decide, by show 2 ≤ sizeLine; decide, fun l hl => ?_⟩
                have h13 := ((h12.new hd2 (.dK (xs := []))).put (i := 0) (o' := .dK (dS [("unknown", -1)])) rfl .dK).new hl (.lst (xs := [.ref d1, .ref d2]))
                have e1 : upd (upd (upd (upd H11 d1 (.dK [])) d2 (.dK [])) d2 (.dK (dS [("unknown", -1)]))) l (.lst [.ref d1, .ref d2]) d1 = some (.dK (dS [])) := h13.get (i := 2) rfl
                have e2 : upd (upd (upd (upd H11 d1 (.dK [])) d2 (.dK [])) d2 (.dK (dS [("unknown", -1)]))) l (.lst [.ref d1, .ref d2]) d2 = some (.dK (dS [("unknown", -1)])) := h13.get (i := 1) rfl
                have e3 : upd (upd (upd (upd H11 d1 (.dK [])) d2 (.dK [])) d2 (.dK (dS [("unknown", -1)]))) l (.lst [.ref d1, .ref d2]) l = some (.lst [.ref d1, .ref d2]) := upd_same
                rw [show mergeK [] [(Sum.inr (Str.ofString "unknown"), V.int (-1))] = dS [("unknown", -1)] from rfl]
                generalize upd (upd (upd (upd H11 d1 (.dK [])) d2 (.dK [])) d2 (.dK (dS [("unknown", -1)]))) l (.lst [.ref d1, .ref d2]) = H12 at h13 e1 e2 e3 ⊢
                have hb9 : 12000 * i + 2000 * j + 1210 + 10 * i' < 1000000000 := by omega
                refine ⟨_, rfl, p, _, _, G8, 2, rfl, h13, hb9, by decide, by decide, fun x H x0 x1 h14 => ?_⟩
                have e1 : H d1 = some (.dK (dS [])) := h14.get (i := 2) rfl
                have e2 : H d2 = some (.dK (dS [("unknown", -1)])) := h14.get (i := 1) rfl
                have e3 : H l = some (.lst [.ref d1, .ref d2]) := h14.get (i := 0) rfl
                have hx : x = 0 ∨ x = 1 := by omega
                rcases hx with rfl | rfl
                · exact ⟨l, [.ref d1, .ref d2], 0, .ref d1, rfl, rfl, SqL.of e3, rfl, hN2 _ _ ⟨d1, [], rfl, e1, List.nodup_nil, by decide, fun _ => rfl, (h14.sub (List.nil_sublist _)).mono (by omega)⟩⟩
                · exact ⟨l, [.ref d1, .ref d2], 1, .ref d2, rfl, rfl, SqL.of e3, rfl, hN2 _ _ ⟨d2, [("unknown", -1)], rfl, e2, by decide, by decide, fun hv => absurd hv (bvn hq), (h14.sub (List.nil_sublist _)).mono (by omega)⟩⟩
            rintro σ H12 ⟨od, st, rfl, hod, nd, few, hst, h12⟩
            refine ⟨_, rfl, _, rfl, _, rfl, 1 + (i' : Int), r, od, ys, es, st, rfl, by omega, by omega, SqL.of (h12.fzat hGr), hGC.mono h12.fz.sub, hod, h12.tab, hsz, nd, few, hst, fun o2 v H13 ho2 g13 dv => ?_⟩
            have h13 := h12.gr g13
            refine ⟨_, rfl, v, wv, outD o, rfl, ?_, hwv _ h13.fz.sub, ho.shal.1, ho.shal.2, fun H14 g14 => ⟨true, rfl, iteF ⟨_, _, rfl, (h13.gr g14).mono (by omega)⟩⟩⟩
            rw [ho.uniq ho2]
            exact dv
          · rintro σ H11 ⟨s9, s10, rfl, h11⟩
            exact hN _ _ ⟨_, _, rfl, h11.mono (by omega)⟩
        rintro σ H11 ⟨s9', s10', rfl, h11⟩
        -- once more
        have shw := nm_shw hb (by omega)
        refine ⟨_, rfl, r, catD es, rfl, dp_cat (SqL.of (h11.fzat hGr)) (hGC.mono h11.fz.sub), shw.1, shw.2, Nat.le_trans (depth_cat es) (by decide), _, rfl, rfl, _, rfl, ?_⟩
        rw [decide_eq_true rfl]
        refine iteF ?_
        exact ⟨G8, _, _, _, _, _, _, _, _, _, rfl, h11.mono (by omega)⟩
      · obtain ⟨G, s2, s3, s4, s5, s6, s7, s8, s9, s10, e, h⟩ := h
        exact ⟨G, s2, s3, s4, s5, s6, s7, s8, s9, s10, e, h.mono (by omega)⟩
    · obtain ⟨G, s2, s3, s4, s5, s6, s7, s8, s9, s10, rfl, h⟩ := h
      -- the empty list
      dsimp only
      refine ⟨by show 0 ≤ sizeLine; decide, fun le hle dd hdd => ?_⟩
      have h2 := (h.new hle (.lst (xs := []))).new hdd (.dK (xs := []))
      refine ⟨0, le, dd, [], [], [], rfl, by decide, by decide, SqL.of (h2.get (i := 1) rfl), .nil, h2.get (i := 0) rfl, h2.tab, nm_sized (m := 0) (by decide) (by decide) (fun e he => by cases he), List.nodup_nil, by decide, fun _ => rfl, fun o v H2 ho g dv => ?_⟩
      have ho : o = some ((Str.ofString "InvalidCatalogue"), .int 0) := R2.uniq ho ⟨rfl, 0, rfl, .inl ⟨rfl, rfl⟩⟩
      subst ho
      dsimp only
      refine ⟨by show 3 ≤ sizeLine; decide, fun l2 hl2 => ?_⟩
      refine ⟨outD (some ("InvalidCatalogue", .int 0)), outD (some ("InvalidCatalogue", .int 0)), Dp.gr (Gr.new (T := Tb) hl2) dv, .lst (SqL.of upd_same) (.cons (.str _) (.cons (.int 0) (.cons (.bl true) .nil))), by decide +kernel, by decide +kernel, ?_⟩
      have eq : (outD (some ("InvalidCatalogue", .int 0))).eqv (outD (some ("InvalidCatalogue", .int 0))) = true := by decide +kernel
      rw [eq]
      exact k _
end
end Sk
set_option maxHeartbeats 0
namespace Sk
open PySem PySem.Spec PyProof.Rows L2
def dfD (i : Nat) (x : Str) : He.DefD := ⟨(x, none), x, x, defArgs (topS i), defBody (topS i), defScope (topS i), [], []⟩
def dfM (i j : Nat) (m q : Str) (ds : List He.Dv) : He.DefD := ⟨("Store", some m), m, q, defArgs (inClass (topS i) j), defBody (inClass (topS i) j), defScope (inClass (topS i) j), ds, []⟩
def hfn : List He.DefD := [⟨("InvalidCatalogue", some "__init__"), "__init__", "InvalidCatalogue.__init__", defArgs (inClass (topS 2) 0), defBody (inClass (topS 2) 0), defScope (inClass (topS 2) 0), [], []⟩, ⟨("InvalidStock", some "__init__"), "__init__", "InvalidStock.__init__", defArgs (inClass (topS 3) 0), defBody (inClass (topS 3) 0), defScope (inClass (topS 3) 0), [], []⟩, ⟨("InvalidSplits", some "__init__"), "__init__", "InvalidSplits.__init__", defArgs (inClass (topS 4) 0), defBody (inClass (topS 4) 0), defScope (inClass (topS 4) 0), [], []⟩, ⟨("InvalidStep", some "__init__"), "__init__", "InvalidStep.__init__", defArgs (inClass (topS 5) 0), defBody (inClass (topS 5) 0), defScope (inClass (topS 5) 0), [], []⟩, ⟨("InvalidNumber", some "__init__"), "__init__", "InvalidNumber.__init__", defArgs (inClass (topS 6) 0), defBody (inClass (topS 6) 0), defScope (inClass (topS 6) 0), [], []⟩, ⟨("TooManySteps", some "__init__"), "__init__", "TooManySteps.__init__", defArgs (inClass (topS 7) 0), defBody (inClass (topS 7) 0), defScope (inClass (topS 7) 0), [], []⟩, ⟨("InvalidText", some "__init__"), "__init__", "InvalidText.__init__", defArgs (inClass (topS 8) 0), defBody (inClass (topS 8) 0), defScope (inClass (topS 8) 0), [], []⟩, dfD 12 "is_name", dfD 13 "is_entry", dfD 14 "check_catalogue", dfD 15 "ordered", dfD 16 "clean", dfD 17 "piece_numbers", dfD 18 "full_splits", dfD 19 "check_stock", dfD 20 "check_splits", dfD 21 "kinds", dfD 22 "pieces", dfD 23 "whole_pieces", dfD 24 "total_splits", dfD 26 "_law_source", dfD 27 "_law_draw", dfD 28 "_law_same", dfD 29 "_law_shuffled", dfD 30 "_law_names", dfD 31 "_law_entries", dfD 33 "_law_is_name", dfD 34 "_law_bad_entry", dfD 35 "_law_error", dfD 36 "_law_spoilt", dfD 37 "_law_raised", dfD 38 "_law_classes_right", dfD 39 "law"]
def hfa : List He.Fa := [.glo "is_name", .glo "is_entry", .glo "check_catalogue", .glo "ordered", .glo "clean", .glo "piece_numbers", .glo "full_splits", .glo "check_stock", .glo "check_splits", .glo "kinds", .glo "pieces", .glo "whole_pieces", .glo "total_splits", .glo "_law_source", .glo "_law_draw", .glo "_law_same", .glo "_law_shuffled", .glo "_law_names", .glo "_law_entries", .glo "_law_is_name", .glo "_law_bad_entry", .glo "_law_error", .glo "_law_spoilt", .glo "_law_raised", .glo "_law_classes_right", .glo "law", .free "ValueError", .free "abs", .free "all", .free "any", .free "bool", .free "dict", .free "enumerate", .free "int", .free "isinstance", .free "len", .free "list", .free "max", .free "min", .free "range", .free "repr", .free "reversed", .free "set", .free "sorted", .free "str", .free "sum", .free "tuple", .free "type", .free "zip", .str "LETTERS" "abcdefghijklmnopqrstuvwxyz", .int "MOST_LETTERS" 8, .glo "InvalidCatalogue", .glo "InvalidNumber", .glo "InvalidSplits", .glo "InvalidStep", .glo "InvalidStock", .glo "InvalidText", .glo "StoreError", .glo "TooManySteps"]
def htf : List He.Defn := [("ordered", none)]
abbrev hR : PySem.W.OpenRow := PySem.W.OpenLaw.row PySem.Challenge.rw_splitstock_k02_catalogue_errors
def hEx (K : PySem.W.Frag) : Bool := sbB K (He.ga K "StoreError") && (xcB K (He.ga K "InvalidCatalogue") && (xcB K (He.ga K "InvalidNumber") && (xcB K (He.ga K "InvalidSplits") && (xcB K (He.ga K "InvalidStep") && (xcB K (He.ga K "InvalidStock") && (xcB K (He.ga K "InvalidText") && (xcB K (He.ga K "TooManySteps") && (kiAll K ["InvalidCatalogue", "InvalidStock", "InvalidSplits", "InvalidStep", "InvalidNumber", "TooManySteps", "InvalidText"] "StoreError" && (seB K (He.ga K "StoreError") ["InvalidCatalogue", "InvalidStock", "InvalidSplits", "InvalidStep", "InvalidNumber", "TooManySteps", "InvalidText"])))))))))
abbrev hHk : PySem.W.Hook := hookC 4 hfa hfn htf hEx
def hOb (s : PySem.W.SharedT) : He.AlX := obsC 4 hfa hfn htf hEx (HandSHeadRun.getT s)
theorem hOb_eq (s : PySem.W.SharedT) : hOb s = hHk.obs s.abs := obsC_eq (HandSHeadRun.getT_eq s)
def hLoose : List Str := ("StoreError" : Str) :: ("InvalidCatalogue" : Str) :: ("InvalidStock" : Str) :: ("InvalidSplits" : Str) :: ("InvalidStep" : Str) :: ("InvalidNumber" : Str) :: ("TooManySteps" : Str) :: ("InvalidText" : Str) :: ("LETTERS" : Str) :: ("MOST_LETTERS" : Str) :: ("is_name" : Str) :: ("is_entry" : Str) :: ("check_catalogue" : Str) :: ("ordered" : Str) :: ("clean" : Str) :: ("piece_numbers" : Str) :: ("full_splits" : Str) :: ("check_stock" : Str) :: ("check_splits" : Str) :: ("kinds" : Str) :: ("pieces" : Str) :: ("whole_pieces" : Str) :: ("total_splits" : Str) :: ("_law_source" : Str) :: ("_law_draw" : Str) :: ("_law_same" : Str) :: ("_law_shuffled" : Str) :: ("_law_names" : Str) :: ("_law_entries" : Str) :: ("_law_largest_first" : Str) :: ("_law_is_name" : Str) :: ("_law_bad_entry" : Str) :: ("_law_error" : Str) :: ("_law_spoilt" : Str) :: ("_law_raised" : Str) :: ("_law_classes_right" : Str) :: []
theorem hRun (w : World) : HandSHeadRun.RunEq hR (PySem.W.view hR.prog [39]) hHk hOb 4000 hLoose w := by
  intro os
  kernel_rfl
theorem hFacts {w : World} {K : PySem.W.Frag} {h : Heap} {mg : Str → Option Value} {fa : Addr} (X : K.In h) (G : h.Ns mainGlobals mg) (hfa0 : mg ("law" : Str) = some (.ref fa)) (c : He.SaysX hfa hfn [] htf hEx w h K) : LawG PySem.Challenge.rw_splitstock_k02_catalogue_errors w K 9 63 "script" mg fa h := by
  have d := c.t.d
  obtain ⟨fd_InvalidCatalogue___init__, F_InvalidCatalogue___init__⟩ := d.def_ 0 (d := ⟨("InvalidCatalogue", some "__init__"), "__init__", "InvalidCatalogue.__init__", defArgs (inClass (topS 2) 0), defBody (inClass (topS 2) 0), defScope (inClass (topS 2) 0), [], []⟩) rfl
  obtain ⟨fd_InvalidStock___init__, F_InvalidStock___init__⟩ := d.def_ 1 (d := ⟨("InvalidStock", some "__init__"), "__init__", "InvalidStock.__init__", defArgs (inClass (topS 3) 0), defBody (inClass (topS 3) 0), defScope (inClass (topS 3) 0), [], []⟩) rfl
  obtain ⟨fd_InvalidSplits___init__, F_InvalidSplits___init__⟩ := d.def_ 2 (d := ⟨("InvalidSplits", some "__init__"), "__init__", "InvalidSplits.__init__", defArgs (inClass (topS 4) 0), defBody (inClass (topS 4) 0), defScope (inClass (topS 4) 0), [], []⟩) rfl
  obtain ⟨fd_InvalidStep___init__, F_InvalidStep___init__⟩ := d.def_ 3 (d := ⟨("InvalidStep", some "__init__"), "__init__", "InvalidStep.__init__", defArgs (inClass (topS 5) 0), defBody (inClass (topS 5) 0), defScope (inClass (topS 5) 0), [], []⟩) rfl
  obtain ⟨fd_InvalidNumber___init__, F_InvalidNumber___init__⟩ := d.def_ 4 (d := ⟨("InvalidNumber", some "__init__"), "__init__", "InvalidNumber.__init__", defArgs (inClass (topS 6) 0), defBody (inClass (topS 6) 0), defScope (inClass (topS 6) 0), [], []⟩) rfl
  obtain ⟨fd_TooManySteps___init__, F_TooManySteps___init__⟩ := d.def_ 5 (d := ⟨("TooManySteps", some "__init__"), "__init__", "TooManySteps.__init__", defArgs (inClass (topS 7) 0), defBody (inClass (topS 7) 0), defScope (inClass (topS 7) 0), [], []⟩) rfl
  obtain ⟨fd_InvalidText___init__, F_InvalidText___init__⟩ := d.def_ 6 (d := ⟨("InvalidText", some "__init__"), "__init__", "InvalidText.__init__", defArgs (inClass (topS 8) 0), defBody (inClass (topS 8) 0), defScope (inClass (topS 8) 0), [], []⟩) rfl
  obtain ⟨fd_is_name, F_is_name⟩ := d.def_ 7 (d := dfD 12 "is_name") rfl
  have g_is_name := He.glo_ok X G (d.fact 0 (f := .glo "is_name") rfl)
  obtain ⟨fd_is_entry, F_is_entry⟩ := d.def_ 8 (d := dfD 13 "is_entry") rfl
  have g_is_entry := He.glo_ok X G (d.fact 1 (f := .glo "is_entry") rfl)
  obtain ⟨fd_check_catalogue, F_check_catalogue⟩ := d.def_ 9 (d := dfD 14 "check_catalogue") rfl
  have g_check_catalogue := He.glo_ok X G (d.fact 2 (f := .glo "check_catalogue") rfl)
  obtain ⟨fd_ordered, F_ordered⟩ := d.def_ 10 (d := dfD 15 "ordered") rfl
  have g_ordered := He.glo_ok X G (d.fact 3 (f := .glo "ordered") rfl)
  obtain ⟨fd_clean, F_clean⟩ := d.def_ 11 (d := dfD 16 "clean") rfl
  have g_clean := He.glo_ok X G (d.fact 4 (f := .glo "clean") rfl)
  obtain ⟨fd_piece_numbers, F_piece_numbers⟩ := d.def_ 12 (d := dfD 17 "piece_numbers") rfl
  have g_piece_numbers := He.glo_ok X G (d.fact 5 (f := .glo "piece_numbers") rfl)
  obtain ⟨fd_full_splits, F_full_splits⟩ := d.def_ 13 (d := dfD 18 "full_splits") rfl
  have g_full_splits := He.glo_ok X G (d.fact 6 (f := .glo "full_splits") rfl)
  obtain ⟨fd_check_stock, F_check_stock⟩ := d.def_ 14 (d := dfD 19 "check_stock") rfl
  have g_check_stock := He.glo_ok X G (d.fact 7 (f := .glo "check_stock") rfl)
  obtain ⟨fd_check_splits, F_check_splits⟩ := d.def_ 15 (d := dfD 20 "check_splits") rfl
  have g_check_splits := He.glo_ok X G (d.fact 8 (f := .glo "check_splits") rfl)
  obtain ⟨fd_kinds, F_kinds⟩ := d.def_ 16 (d := dfD 21 "kinds") rfl
  have g_kinds := He.glo_ok X G (d.fact 9 (f := .glo "kinds") rfl)
  obtain ⟨fd_pieces, F_pieces⟩ := d.def_ 17 (d := dfD 22 "pieces") rfl
  have g_pieces := He.glo_ok X G (d.fact 10 (f := .glo "pieces") rfl)
  obtain ⟨fd_whole_pieces, F_whole_pieces⟩ := d.def_ 18 (d := dfD 23 "whole_pieces") rfl
  have g_whole_pieces := He.glo_ok X G (d.fact 11 (f := .glo "whole_pieces") rfl)
  obtain ⟨fd_total_splits, F_total_splits⟩ := d.def_ 19 (d := dfD 24 "total_splits") rfl
  have g_total_splits := He.glo_ok X G (d.fact 12 (f := .glo "total_splits") rfl)
  obtain ⟨fd_law_source, F_law_source⟩ := d.def_ 20 (d := dfD 26 "_law_source") rfl
  have g_law_source := He.glo_ok X G (d.fact 13 (f := .glo "_law_source") rfl)
  obtain ⟨fd_law_draw, F_law_draw⟩ := d.def_ 21 (d := dfD 27 "_law_draw") rfl
  have g_law_draw := He.glo_ok X G (d.fact 14 (f := .glo "_law_draw") rfl)
  obtain ⟨fd_law_same, F_law_same⟩ := d.def_ 22 (d := dfD 28 "_law_same") rfl
  have g_law_same := He.glo_ok X G (d.fact 15 (f := .glo "_law_same") rfl)
  obtain ⟨fd_law_shuffled, F_law_shuffled⟩ := d.def_ 23 (d := dfD 29 "_law_shuffled") rfl
  have g_law_shuffled := He.glo_ok X G (d.fact 16 (f := .glo "_law_shuffled") rfl)
  obtain ⟨fd_law_names, F_law_names⟩ := d.def_ 24 (d := dfD 30 "_law_names") rfl
  have g_law_names := He.glo_ok X G (d.fact 17 (f := .glo "_law_names") rfl)
  obtain ⟨fd_law_entries, F_law_entries⟩ := d.def_ 25 (d := dfD 31 "_law_entries") rfl
  have g_law_entries := He.glo_ok X G (d.fact 18 (f := .glo "_law_entries") rfl)
  obtain ⟨fd_law_is_name, F_law_is_name⟩ := d.def_ 26 (d := dfD 33 "_law_is_name") rfl
  have g_law_is_name := He.glo_ok X G (d.fact 19 (f := .glo "_law_is_name") rfl)
  obtain ⟨fd_law_bad_entry, F_law_bad_entry⟩ := d.def_ 27 (d := dfD 34 "_law_bad_entry") rfl
  have g_law_bad_entry := He.glo_ok X G (d.fact 20 (f := .glo "_law_bad_entry") rfl)
  obtain ⟨fd_law_error, F_law_error⟩ := d.def_ 28 (d := dfD 35 "_law_error") rfl
  have g_law_error := He.glo_ok X G (d.fact 21 (f := .glo "_law_error") rfl)
  obtain ⟨fd_law_spoilt, F_law_spoilt⟩ := d.def_ 29 (d := dfD 36 "_law_spoilt") rfl
  have g_law_spoilt := He.glo_ok X G (d.fact 22 (f := .glo "_law_spoilt") rfl)
  obtain ⟨fd_law_raised, F_law_raised⟩ := d.def_ 30 (d := dfD 37 "_law_raised") rfl
  have g_law_raised := He.glo_ok X G (d.fact 23 (f := .glo "_law_raised") rfl)
  obtain ⟨fd_law_classes_right, F_law_classes_right⟩ := d.def_ 31 (d := dfD 38 "_law_classes_right") rfl
  have g_law_classes_right := He.glo_ok X G (d.fact 24 (f := .glo "_law_classes_right") rfl)
  obtain ⟨fd_law, F_law⟩ := d.def_ 32 (d := dfD 39 "law") rfl
  have g_law := He.glo_ok X G (d.fact 25 (f := .glo "law") rfl)
  have g_InvalidCatalogue := He.glo_ok X G (d.fact 51 (f := .glo "InvalidCatalogue") rfl)
  have g_InvalidNumber := He.glo_ok X G (d.fact 52 (f := .glo "InvalidNumber") rfl)
  have g_InvalidSplits := He.glo_ok X G (d.fact 53 (f := .glo "InvalidSplits") rfl)
  have g_InvalidStep := He.glo_ok X G (d.fact 54 (f := .glo "InvalidStep") rfl)
  have g_InvalidStock := He.glo_ok X G (d.fact 55 (f := .glo "InvalidStock") rfl)
  have g_InvalidText := He.glo_ok X G (d.fact 56 (f := .glo "InvalidText") rfl)
  have g_StoreError := He.glo_ok X G (d.fact 57 (f := .glo "StoreError") rfl)
  have g_TooManySteps := He.glo_ok X G (d.fact 58 (f := .glo "TooManySteps") rfl)
  have xx : hEx K = true := c.more
  unfold hEx at xx
  simp only [Bool.and_eq_true, decide_eq_true_eq] at xx
  obtain ⟨x0, x1, x2, x3, x4, x5, x6, x7, x8, x9⟩ := xx
  have e := hfa0.symm.trans g_law
  cases e
  have T : Tx K mg := { n_ValueError := He.free_ok X G (d.fact 26 (f := .free "ValueError") rfl), n_abs := He.free_ok X G (d.fact 27 (f := .free "abs") rfl), n_all := He.free_ok X G (d.fact 28 (f := .free "all") rfl), n_any := He.free_ok X G (d.fact 29 (f := .free "any") rfl), n_bool := He.free_ok X G (d.fact 30 (f := .free "bool") rfl), n_dict := He.free_ok X G (d.fact 31 (f := .free "dict") rfl), n_enumerate := He.free_ok X G (d.fact 32 (f := .free "enumerate") rfl), n_int := He.free_ok X G (d.fact 33 (f := .free "int") rfl), n_isinstance := He.free_ok X G (d.fact 34 (f := .free "isinstance") rfl), n_len := He.free_ok X G (d.fact 35 (f := .free "len") rfl), n_list := He.free_ok X G (d.fact 36 (f := .free "list") rfl), n_max := He.free_ok X G (d.fact 37 (f := .free "max") rfl), n_min := He.free_ok X G (d.fact 38 (f := .free "min") rfl), n_range := He.free_ok X G (d.fact 39 (f := .free "range") rfl), n_repr := He.free_ok X G (d.fact 40 (f := .free "repr") rfl), n_reversed := He.free_ok X G (d.fact 41 (f := .free "reversed") rfl), n_set := He.free_ok X G (d.fact 42 (f := .free "set") rfl), n_sorted := He.free_ok X G (d.fact 43 (f := .free "sorted") rfl), n_str := He.free_ok X G (d.fact 44 (f := .free "str") rfl), n_sum := He.free_ok X G (d.fact 45 (f := .free "sum") rfl), n_tuple := He.free_ok X G (d.fact 46 (f := .free "tuple") rfl), n_type := He.free_ok X G (d.fact 47 (f := .free "type") rfl), n_zip := He.free_ok X G (d.fact 48 (f := .free "zip") rfl), c_LETTERS := He.str_ok X G (d.fact 49 (f := .str "LETTERS" "abcdefghijklmnopqrstuvwxyz") rfl), c_MOST_LETTERS := He.int_ok X G (d.fact 50 (f := .int "MOST_LETTERS" 8) rfl), sb := sbB_ok x0, xb_InvalidCatalogue := xcB_ok x1, xb_InvalidNumber := xcB_ok x2, xb_InvalidSplits := xcB_ok x3, xb_InvalidStep := xcB_ok x4, xb_InvalidStock := xcB_ok x5, xb_InvalidText := xcB_ok x6, xb_TooManySteps := xcB_ok x7, ke := x8, se := x9, g_InvalidCatalogue := g_InvalidCatalogue, g_InvalidNumber := g_InvalidNumber, g_InvalidSplits := g_InvalidSplits, g_InvalidStep := g_InvalidStep, g_InvalidStock := g_InvalidStock, g_InvalidText := g_InvalidText, g_StoreError := g_StoreError, g_TooManySteps := g_TooManySteps }
  let Tb : List (Addr × Str) := [((He.cT K ("ordered", none)).2, "ordered.<locals>.<lambda>")]
  refine ⟨fd_law, htf.map (He.cT K), sp_law Tb K, fun p hp => ?_, fun p hp => ?_, fun p hp => ?_, fun s v => FunD.bindsA (ps := ["script"]) F_law (fun _ _ _ _ _ _ us hl => match us, hl with | [_], _ => rfl) s [v] rfl, fun H a ns hn _ hH _ hS => ⟨a, ns, rfl, hS, hn, tabs_start fun p hp => ?_, fun _ => rfl⟩, fun base KB GB hTB => ?_⟩
  · obtain ⟨q, hq, rfl⟩ := List.mem_map.mp hp
    exact c.empty q hq
  · obtain ⟨q, hq, rfl⟩ := List.mem_map.mp hp
    exact c.out q hq
  · obtain ⟨q, hq, rfl⟩ := List.mem_map.mp hp
    exact PySem.W.codeHd_of_K X (c.hd q hq)
  · rcases List.mem_cons.mp hp with rfl | hp
    · exact hH _ (List.mem_map.mpr ⟨("ordered", none), by simp [htf], rfl⟩)
    cases hp
  · have O_InvalidCatalogue___init__ : FnOk (PySem.Challenge.rw_splitstock_k02_catalogue_errors).prog w K mg base CX0 1 (He.ma K (He.ga K "InvalidCatalogue") "__init__") fd_InvalidCatalogue___init__ ["self", "value"] (xinit (He.ga K "InvalidCatalogue")) := ok_InvalidCatalogue___init__ (Tb := Tb) F_InvalidCatalogue___init__ T
    have XC_InvalidCatalogue : Xc (PySem.Challenge.rw_splitstock_k02_catalogue_errors).prog w K mg base "InvalidCatalogue" := ⟨T.xb_InvalidCatalogue, g_InvalidCatalogue, _, _, O_InvalidCatalogue___init__, FunD.bindsN F_InvalidCatalogue___init__ (fun _ _ _ _ _ _ us hl => match us, hl with | [_, _], _ => rfl), kbn_of (g := fun us ws => [us.getD 0 .none, ws.getD 0 .none]) F_InvalidCatalogue___init__ (fun _ _ _ _ _ _ us ws h1 h2 => match us, h1, ws, h2 with | [_], _, [_], _ => rfl) (fun r1 r2 => .cons (Vals.getD r1 0) (.cons (Vals.getD r2 0) .nil))⟩
    have O_InvalidStock___init__ : FnOk (PySem.Challenge.rw_splitstock_k02_catalogue_errors).prog w K mg base CX0 1 (He.ma K (He.ga K "InvalidStock") "__init__") fd_InvalidStock___init__ ["self", "value"] (xinit (He.ga K "InvalidStock")) := ok_InvalidStock___init__ (Tb := Tb) F_InvalidStock___init__ T
    have XC_InvalidStock : Xc (PySem.Challenge.rw_splitstock_k02_catalogue_errors).prog w K mg base "InvalidStock" := ⟨T.xb_InvalidStock, g_InvalidStock, _, _, O_InvalidStock___init__, FunD.bindsN F_InvalidStock___init__ (fun _ _ _ _ _ _ us hl => match us, hl with | [_, _], _ => rfl), kbn_of (g := fun us ws => [us.getD 0 .none, ws.getD 0 .none]) F_InvalidStock___init__ (fun _ _ _ _ _ _ us ws h1 h2 => match us, h1, ws, h2 with | [_], _, [_], _ => rfl) (fun r1 r2 => .cons (Vals.getD r1 0) (.cons (Vals.getD r2 0) .nil))⟩
    have O_InvalidSplits___init__ : FnOk (PySem.Challenge.rw_splitstock_k02_catalogue_errors).prog w K mg base CX0 1 (He.ma K (He.ga K "InvalidSplits") "__init__") fd_InvalidSplits___init__ ["self", "value"] (xinit (He.ga K "InvalidSplits")) := ok_InvalidSplits___init__ (Tb := Tb) F_InvalidSplits___init__ T
    have XC_InvalidSplits : Xc (PySem.Challenge.rw_splitstock_k02_catalogue_errors).prog w K mg base "InvalidSplits" := ⟨T.xb_InvalidSplits, g_InvalidSplits, _, _, O_InvalidSplits___init__, FunD.bindsN F_InvalidSplits___init__ (fun _ _ _ _ _ _ us hl => match us, hl with | [_, _], _ => rfl), kbn_of (g := fun us ws => [us.getD 0 .none, ws.getD 0 .none]) F_InvalidSplits___init__ (fun _ _ _ _ _ _ us ws h1 h2 => match us, h1, ws, h2 with | [_], _, [_], _ => rfl) (fun r1 r2 => .cons (Vals.getD r1 0) (.cons (Vals.getD r2 0) .nil))⟩
    have O_InvalidStep___init__ : FnOk (PySem.Challenge.rw_splitstock_k02_catalogue_errors).prog w K mg base CX0 1 (He.ma K (He.ga K "InvalidStep") "__init__") fd_InvalidStep___init__ ["self", "value"] (xinit (He.ga K "InvalidStep")) := ok_InvalidStep___init__ (Tb := Tb) F_InvalidStep___init__ T
    have XC_InvalidStep : Xc (PySem.Challenge.rw_splitstock_k02_catalogue_errors).prog w K mg base "InvalidStep" := ⟨T.xb_InvalidStep, g_InvalidStep, _, _, O_InvalidStep___init__, FunD.bindsN F_InvalidStep___init__ (fun _ _ _ _ _ _ us hl => match us, hl with | [_, _], _ => rfl), kbn_of (g := fun us ws => [us.getD 0 .none, ws.getD 0 .none]) F_InvalidStep___init__ (fun _ _ _ _ _ _ us ws h1 h2 => match us, h1, ws, h2 with | [_], _, [_], _ => rfl) (fun r1 r2 => .cons (Vals.getD r1 0) (.cons (Vals.getD r2 0) .nil))⟩
    have O_InvalidNumber___init__ : FnOk (PySem.Challenge.rw_splitstock_k02_catalogue_errors).prog w K mg base CX0 1 (He.ma K (He.ga K "InvalidNumber") "__init__") fd_InvalidNumber___init__ ["self", "value"] (xinit (He.ga K "InvalidNumber")) := ok_InvalidNumber___init__ (Tb := Tb) F_InvalidNumber___init__ T
    have XC_InvalidNumber : Xc (PySem.Challenge.rw_splitstock_k02_catalogue_errors).prog w K mg base "InvalidNumber" := ⟨T.xb_InvalidNumber, g_InvalidNumber, _, _, O_InvalidNumber___init__, FunD.bindsN F_InvalidNumber___init__ (fun _ _ _ _ _ _ us hl => match us, hl with | [_, _], _ => rfl), kbn_of (g := fun us ws => [us.getD 0 .none, ws.getD 0 .none]) F_InvalidNumber___init__ (fun _ _ _ _ _ _ us ws h1 h2 => match us, h1, ws, h2 with | [_], _, [_], _ => rfl) (fun r1 r2 => .cons (Vals.getD r1 0) (.cons (Vals.getD r2 0) .nil))⟩
    have O_TooManySteps___init__ : FnOk (PySem.Challenge.rw_splitstock_k02_catalogue_errors).prog w K mg base CX0 1 (He.ma K (He.ga K "TooManySteps") "__init__") fd_TooManySteps___init__ ["self", "value"] (xinit (He.ga K "TooManySteps")) := ok_TooManySteps___init__ (Tb := Tb) F_TooManySteps___init__ T
    have XC_TooManySteps : Xc (PySem.Challenge.rw_splitstock_k02_catalogue_errors).prog w K mg base "TooManySteps" := ⟨T.xb_TooManySteps, g_TooManySteps, _, _, O_TooManySteps___init__, FunD.bindsN F_TooManySteps___init__ (fun _ _ _ _ _ _ us hl => match us, hl with | [_, _], _ => rfl), kbn_of (g := fun us ws => [us.getD 0 .none, ws.getD 0 .none]) F_TooManySteps___init__ (fun _ _ _ _ _ _ us ws h1 h2 => match us, h1, ws, h2 with | [_], _, [_], _ => rfl) (fun r1 r2 => .cons (Vals.getD r1 0) (.cons (Vals.getD r2 0) .nil))⟩
    have O_InvalidText___init__ : FnOk (PySem.Challenge.rw_splitstock_k02_catalogue_errors).prog w K mg base CX0 1 (He.ma K (He.ga K "InvalidText") "__init__") fd_InvalidText___init__ ["self", "value"] (xinit (He.ga K "InvalidText")) := ok_InvalidText___init__ (Tb := Tb) F_InvalidText___init__ T
    have XC_InvalidText : Xc (PySem.Challenge.rw_splitstock_k02_catalogue_errors).prog w K mg base "InvalidText" := ⟨T.xb_InvalidText, g_InvalidText, _, _, O_InvalidText___init__, FunD.bindsN F_InvalidText___init__ (fun _ _ _ _ _ _ us hl => match us, hl with | [_, _], _ => rfl), kbn_of (g := fun us ws => [us.getD 0 .none, ws.getD 0 .none]) F_InvalidText___init__ (fun _ _ _ _ _ _ us ws h1 h2 => match us, h1, ws, h2 with | [_], _, [_], _ => rfl) (fun r1 r2 => .cons (Vals.getD r1 0) (.cons (Vals.getD r2 0) .nil))⟩
    have O_is_name : FnOk (PySem.Challenge.rw_splitstock_k02_catalogue_errors).prog w K mg base CX0 1 (He.fAd K ("is_name", none)) fd_is_name ["text"] (sp_is_name Tb K) := ok_is_name F_is_name T
    have G_is_name : Fn (PySem.Challenge.rw_splitstock_k02_catalogue_errors).prog w K mg base "is_name" 1 ["text"] (sp_is_name Tb K) := ⟨_, _, O_is_name, g_is_name, F_is_name.kp, F_is_name.bindsN (fun _ _ _ _ _ _ us hl => match us, hl with | [_], _ => rfl)⟩
    have O_is_entry : FnOk (PySem.Challenge.rw_splitstock_k02_catalogue_errors).prog w K mg base CX0 2 (He.fAd K ("is_entry", none)) fd_is_entry ["entry", "earlier_names", "weights"] (sp_is_entry Tb K) := ok_is_entry F_is_entry T G_is_name
    have G_is_entry : Fn (PySem.Challenge.rw_splitstock_k02_catalogue_errors).prog w K mg base "is_entry" 2 ["entry", "earlier_names", "weights"] (sp_is_entry Tb K) := ⟨_, _, O_is_entry, g_is_entry, F_is_entry.kp, F_is_entry.bindsN (fun _ _ _ _ _ _ us hl => match us, hl with | [_, _, _], _ => rfl)⟩
    have O_check_catalogue : FnOk (PySem.Challenge.rw_splitstock_k02_catalogue_errors).prog w K mg base (L2N.CX (PySem.Challenge.rw_splitstock_k02_catalogue_errors).prog w) 3 (He.fAd K ("check_catalogue", none)) fd_check_catalogue ["catalogue"] (sp_check_catalogue Tb K) := ok_check_catalogue F_check_catalogue T XC_InvalidCatalogue G_is_entry
    have GX_check_catalogue : FnX (PySem.Challenge.rw_splitstock_k02_catalogue_errors).prog w K mg base "check_catalogue" 3 ["catalogue"] (sp_check_catalogue Tb K) := ⟨_, _, O_check_catalogue, g_check_catalogue, F_check_catalogue.kp, F_check_catalogue.bindsN (fun _ _ _ _ _ _ us hl => match us, hl with | [_], _ => rfl)⟩
    have O_ordered : FnOk (PySem.Challenge.rw_splitstock_k02_catalogue_errors).prog w K mg base CX0 4 (He.fAd K ("ordered", none)) fd_ordered ["catalogue"] (sp_ordered Tb K) := ok_ordered F_ordered T (lam_code F_ordered) (hTB _ (List.mem_map.mpr ⟨("ordered", none), by simp [htf], rfl⟩)) (by simp [Tb]) (fun p hp e => by simp [Tb] at hp; rw [hp])
    have G_ordered : Fn (PySem.Challenge.rw_splitstock_k02_catalogue_errors).prog w K mg base "ordered" 4 ["catalogue"] (sp_ordered Tb K) := ⟨_, _, O_ordered, g_ordered, F_ordered.kp, F_ordered.bindsN (fun _ _ _ _ _ _ us hl => match us, hl with | [_], _ => rfl)⟩
    have O_clean : FnOk (PySem.Challenge.rw_splitstock_k02_catalogue_errors).prog w K mg base CX0 1 (He.fAd K ("clean", none)) fd_clean ["entries", "numbers"] (sp_clean Tb K) := ok_clean F_clean T
    have G_clean : Fn (PySem.Challenge.rw_splitstock_k02_catalogue_errors).prog w K mg base "clean" 1 ["entries", "numbers"] (sp_clean Tb K) := ⟨_, _, O_clean, g_clean, F_clean.kp, F_clean.bindsN (fun _ _ _ _ _ _ us hl => match us, hl with | [_, _], _ => rfl)⟩
    have O_piece_numbers : FnOk (PySem.Challenge.rw_splitstock_k02_catalogue_errors).prog w K mg base CX0 1 (He.fAd K ("piece_numbers", none)) fd_piece_numbers ["entries", "stock", "splits"] (sp_piece_numbers Tb K) := ok_piece_numbers F_piece_numbers T
    have G_piece_numbers : Fn (PySem.Challenge.rw_splitstock_k02_catalogue_errors).prog w K mg base "piece_numbers" 1 ["entries", "stock", "splits"] (sp_piece_numbers Tb K) := ⟨_, _, O_piece_numbers, g_piece_numbers, F_piece_numbers.kp, F_piece_numbers.bindsN (fun _ _ _ _ _ _ us hl => match us, hl with | [_, _, _], _ => rfl)⟩
    have O_full_splits : FnOk (PySem.Challenge.rw_splitstock_k02_catalogue_errors).prog w K mg base CX0 1 (He.fAd K ("full_splits", none)) fd_full_splits ["entries", "stock"] (sp_full_splits Tb K) := ok_full_splits F_full_splits T
    have G_full_splits : Fn (PySem.Challenge.rw_splitstock_k02_catalogue_errors).prog w K mg base "full_splits" 1 ["entries", "stock"] (sp_full_splits Tb K) := ⟨_, _, O_full_splits, g_full_splits, F_full_splits.kp, F_full_splits.bindsN (fun _ _ _ _ _ _ us hl => match us, hl with | [_, _], _ => rfl)⟩
    have O_check_stock : FnOk (PySem.Challenge.rw_splitstock_k02_catalogue_errors).prog w K mg base (L2N.CX (PySem.Challenge.rw_splitstock_k02_catalogue_errors).prog w) 3 (He.fAd K ("check_stock", none)) fd_check_stock ["catalogue", "stock"] (sp_check_stock Tb K) := ok_check_stock F_check_stock T XC_InvalidStock
    have GX_check_stock : FnX (PySem.Challenge.rw_splitstock_k02_catalogue_errors).prog w K mg base "check_stock" 3 ["catalogue", "stock"] (sp_check_stock Tb K) := ⟨_, _, O_check_stock, g_check_stock, F_check_stock.kp, F_check_stock.bindsN (fun _ _ _ _ _ _ us hl => match us, hl with | [_, _], _ => rfl)⟩
    have O_check_splits : FnOk (PySem.Challenge.rw_splitstock_k02_catalogue_errors).prog w K mg base (L2N.CX (PySem.Challenge.rw_splitstock_k02_catalogue_errors).prog w) 5 (He.fAd K ("check_splits", none)) fd_check_splits ["catalogue", "stock", "splits"] (sp_check_splits Tb K) := ok_check_splits F_check_splits T XC_InvalidSplits G_ordered G_piece_numbers
    have GX_check_splits : FnX (PySem.Challenge.rw_splitstock_k02_catalogue_errors).prog w K mg base "check_splits" 5 ["catalogue", "stock", "splits"] (sp_check_splits Tb K) := ⟨_, _, O_check_splits, g_check_splits, F_check_splits.kp, F_check_splits.bindsN (fun _ _ _ _ _ _ us hl => match us, hl with | [_, _, _], _ => rfl)⟩
    have O_kinds : FnOk (PySem.Challenge.rw_splitstock_k02_catalogue_errors).prog w K mg base (L2N.CX (PySem.Challenge.rw_splitstock_k02_catalogue_errors).prog w) 5 (He.fAd K ("kinds", none)) fd_kinds ["catalogue"] (sp_kinds Tb K) := ok_kinds F_kinds T GX_check_catalogue G_ordered
    have GX_kinds : FnX (PySem.Challenge.rw_splitstock_k02_catalogue_errors).prog w K mg base "kinds" 5 ["catalogue"] (sp_kinds Tb K) := ⟨_, _, O_kinds, g_kinds, F_kinds.kp, F_kinds.bindsN (fun _ _ _ _ _ _ us hl => match us, hl with | [_], _ => rfl)⟩
    have O_pieces : FnOk (PySem.Challenge.rw_splitstock_k02_catalogue_errors).prog w K mg base (L2N.CX (PySem.Challenge.rw_splitstock_k02_catalogue_errors).prog w) 6 (He.fAd K ("pieces", none)) fd_pieces ["catalogue", "stock", "splits"] (sp_pieces Tb K) := ok_pieces F_pieces T GX_check_catalogue GX_check_splits GX_check_stock G_clean G_ordered G_piece_numbers
    have GX_pieces : FnX (PySem.Challenge.rw_splitstock_k02_catalogue_errors).prog w K mg base "pieces" 6 ["catalogue", "stock", "splits"] (sp_pieces Tb K) := ⟨_, _, O_pieces, g_pieces, F_pieces.kp, F_pieces.bindsN (fun _ _ _ _ _ _ us hl => match us, hl with | [_, _, _], _ => rfl)⟩
    have O_whole_pieces : FnOk (PySem.Challenge.rw_splitstock_k02_catalogue_errors).prog w K mg base (L2N.CX (PySem.Challenge.rw_splitstock_k02_catalogue_errors).prog w) 7 (He.fAd K ("whole_pieces", none)) fd_whole_pieces ["catalogue", "stock", "splits"] (sp_whole_pieces Tb K) := ok_whole_pieces F_whole_pieces T G_clean G_ordered GX_pieces
    have GX_whole_pieces : FnX (PySem.Challenge.rw_splitstock_k02_catalogue_errors).prog w K mg base "whole_pieces" 7 ["catalogue", "stock", "splits"] (sp_whole_pieces Tb K) := ⟨_, _, O_whole_pieces, g_whole_pieces, F_whole_pieces.kp, F_whole_pieces.bindsN (fun _ _ _ _ _ _ us hl => match us, hl with | [_, _, _], _ => rfl)⟩
    have O_total_splits : FnOk (PySem.Challenge.rw_splitstock_k02_catalogue_errors).prog w K mg base (L2N.CX (PySem.Challenge.rw_splitstock_k02_catalogue_errors).prog w) 5 (He.fAd K ("total_splits", none)) fd_total_splits ["catalogue", "stock"] (sp_total_splits Tb K) := ok_total_splits F_total_splits T GX_check_catalogue GX_check_stock G_full_splits G_ordered
    have GX_total_splits : FnX (PySem.Challenge.rw_splitstock_k02_catalogue_errors).prog w K mg base "total_splits" 5 ["catalogue", "stock"] (sp_total_splits Tb K) := ⟨_, _, O_total_splits, g_total_splits, F_total_splits.kp, F_total_splits.bindsN (fun _ _ _ _ _ _ us hl => match us, hl with | [_, _], _ => rfl)⟩
    have O_law_source : FnOk (PySem.Challenge.rw_splitstock_k02_catalogue_errors).prog w K mg base CX0 1 (He.fAd K ("_law_source", none)) fd_law_source ["script"] (sp_law_source Tb K) := ok_law_source F_law_source T
    have G_law_source : Fn (PySem.Challenge.rw_splitstock_k02_catalogue_errors).prog w K mg base "_law_source" 1 ["script"] (sp_law_source Tb K) := ⟨_, _, O_law_source, g_law_source, F_law_source.kp, F_law_source.bindsN (fun _ _ _ _ _ _ us hl => match us, hl with | [_], _ => rfl)⟩
    have O_law_draw : FnOk (PySem.Challenge.rw_splitstock_k02_catalogue_errors).prog w K mg base CX0 1 (He.fAd K ("_law_draw", none)) fd_law_draw ["source", "many"] (sp_law_draw Tb K) := ok_law_draw F_law_draw T
    have G_law_draw : Fn (PySem.Challenge.rw_splitstock_k02_catalogue_errors).prog w K mg base "_law_draw" 1 ["source", "many"] (sp_law_draw Tb K) := ⟨_, _, O_law_draw, g_law_draw, F_law_draw.kp, F_law_draw.bindsN (fun _ _ _ _ _ _ us hl => match us, hl with | [_, _], _ => rfl)⟩
    have O_law_same : FnOk (PySem.Challenge.rw_splitstock_k02_catalogue_errors).prog w K mg base CX0 5 (He.fAd K ("_law_same", none)) fd_law_same ["found", "wanted"] (sp_law_same Tb K) := ok_same F_law_same T g_law_same F_law_same.kp (F_law_same.bindsN (fun _ _ _ _ _ _ us hl => match us, hl with | [_, _], _ => rfl)) 5
    have G_law_same : Fn (PySem.Challenge.rw_splitstock_k02_catalogue_errors).prog w K mg base "_law_same" 5 ["found", "wanted"] (sp_law_same Tb K) := ⟨_, _, O_law_same, g_law_same, F_law_same.kp, F_law_same.bindsN (fun _ _ _ _ _ _ us hl => match us, hl with | [_, _], _ => rfl)⟩
    have O_law_shuffled : FnOk (PySem.Challenge.rw_splitstock_k02_catalogue_errors).prog w K mg base CX0 2 (He.fAd K ("_law_shuffled", none)) fd_law_shuffled ["source", "items"] (sp_law_shuffled Tb K) := ok_law_shuffled F_law_shuffled T G_law_draw
    have G_law_shuffled : Fn (PySem.Challenge.rw_splitstock_k02_catalogue_errors).prog w K mg base "_law_shuffled" 2 ["source", "items"] (sp_law_shuffled Tb K) := ⟨_, _, O_law_shuffled, g_law_shuffled, F_law_shuffled.kp, F_law_shuffled.bindsN (fun _ _ _ _ _ _ us hl => match us, hl with | [_, _], _ => rfl)⟩
    have O_law_names : FnOk (PySem.Challenge.rw_splitstock_k02_catalogue_errors).prog w K mg base CX0 3 (He.fAd K ("_law_names", none)) fd_law_names ["source"] (sp_law_names Tb K) := ok_law_names F_law_names T G_law_shuffled
    have G_law_names : Fn (PySem.Challenge.rw_splitstock_k02_catalogue_errors).prog w K mg base "_law_names" 3 ["source"] (sp_law_names Tb K) := ⟨_, _, O_law_names, g_law_names, F_law_names.kp, F_law_names.bindsN (fun _ _ _ _ _ _ us hl => match us, hl with | [_], _ => rfl)⟩
    have O_law_entries : FnOk (PySem.Challenge.rw_splitstock_k02_catalogue_errors).prog w K mg base CX0 4 (He.fAd K ("_law_entries", none)) fd_law_entries ["source", "most"] (sp_law_entries Tb K) := ok_law_entries F_law_entries T G_law_draw G_law_names G_law_shuffled
    have G_law_entries : Fn (PySem.Challenge.rw_splitstock_k02_catalogue_errors).prog w K mg base "_law_entries" 4 ["source", "most"] (sp_law_entries Tb K) := ⟨_, _, O_law_entries, g_law_entries, F_law_entries.kp, F_law_entries.bindsN (fun _ _ _ _ _ _ us hl => match us, hl with | [_, _], _ => rfl)⟩
    have O_law_is_name : FnOk (PySem.Challenge.rw_splitstock_k02_catalogue_errors).prog w K mg base CX0 1 (He.fAd K ("_law_is_name", none)) fd_law_is_name ["name"] (sp_law_is_name Tb K) := ok_law_is_name F_law_is_name T
    have G_law_is_name : Fn (PySem.Challenge.rw_splitstock_k02_catalogue_errors).prog w K mg base "_law_is_name" 1 ["name"] (sp_law_is_name Tb K) := ⟨_, _, O_law_is_name, g_law_is_name, F_law_is_name.kp, F_law_is_name.bindsN (fun _ _ _ _ _ _ us hl => match us, hl with | [_], _ => rfl)⟩
    have O_law_bad_entry : FnOk (PySem.Challenge.rw_splitstock_k02_catalogue_errors).prog w K mg base CX0 2 (He.fAd K ("_law_bad_entry", none)) fd_law_bad_entry ["entries"] (sp_law_bad_entry Tb K) := ok_law_bad_entry F_law_bad_entry T G_law_is_name
    have G_law_bad_entry : Fn (PySem.Challenge.rw_splitstock_k02_catalogue_errors).prog w K mg base "_law_bad_entry" 2 ["entries"] (sp_law_bad_entry Tb K) := ⟨_, _, O_law_bad_entry, g_law_bad_entry, F_law_bad_entry.kp, F_law_bad_entry.bindsN (fun _ _ _ _ _ _ us hl => match us, hl with | [_], _ => rfl)⟩
    have OT_law_error : FnT (PySem.Challenge.rw_splitstock_k02_catalogue_errors).prog w K mg base CX0 1 (He.fAd K ("_law_error", none)) fd_law_error ["e"] (hotSp (sp_law_error Tb K)) := okT_law_error F_law_error T
    have GT_law_error : FnTx (PySem.Challenge.rw_splitstock_k02_catalogue_errors).prog w K mg base "_law_error" 1 ["e"] (hotSp (sp_law_error Tb K)) := ⟨_, _, OT_law_error, g_law_error, F_law_error.kp, F_law_error.bindsN (fun _ _ _ _ _ _ us hl => match us, hl with | [_], _ => rfl)⟩
    have O_law_error : FnOk (PySem.Challenge.rw_splitstock_k02_catalogue_errors).prog w K mg base CX0 1 (He.fAd K ("_law_error", none)) fd_law_error ["e"] (sp_law_error Tb K) := ok_law_error F_law_error T
    have G_law_error : Fn (PySem.Challenge.rw_splitstock_k02_catalogue_errors).prog w K mg base "_law_error" 1 ["e"] (sp_law_error Tb K) := ⟨_, _, O_law_error, g_law_error, F_law_error.kp, F_law_error.bindsN (fun _ _ _ _ _ _ us hl => match us, hl with | [_], _ => rfl)⟩
    have O_law_spoilt : FnOk (PySem.Challenge.rw_splitstock_k02_catalogue_errors).prog w K mg base CX0 2 (He.fAd K ("_law_spoilt", none)) fd_law_spoilt ["source", "entries"] (sp_law_spoilt Tb K) := ok_law_spoilt F_law_spoilt T G_law_draw
    have G_law_spoilt : Fn (PySem.Challenge.rw_splitstock_k02_catalogue_errors).prog w K mg base "_law_spoilt" 2 ["source", "entries"] (sp_law_spoilt Tb K) := ⟨_, _, O_law_spoilt, g_law_spoilt, F_law_spoilt.kp, F_law_spoilt.bindsN (fun _ _ _ _ _ _ us hl => match us, hl with | [_, _], _ => rfl)⟩
    have O_law_raised : FnOk (PySem.Challenge.rw_splitstock_k02_catalogue_errors).prog w K mg base CX0 8 (He.fAd K ("_law_raised", none)) fd_law_raised ["door", "entries", "other"] (sp_law_raised Tb K) := ok_law_raised F_law_raised T GT_law_error GX_kinds GX_pieces GX_total_splits GX_whole_pieces
    have G_law_raised : Fn (PySem.Challenge.rw_splitstock_k02_catalogue_errors).prog w K mg base "_law_raised" 8 ["door", "entries", "other"] (sp_law_raised Tb K) := ⟨_, _, O_law_raised, g_law_raised, F_law_raised.kp, F_law_raised.bindsN (fun _ _ _ _ _ _ us hl => match us, hl with | [_, _, _], _ => rfl)⟩
    have O_law_classes_right : FnOk (PySem.Challenge.rw_splitstock_k02_catalogue_errors).prog w K mg base CX0 3 (He.fAd K ("_law_classes_right", none)) fd_law_classes_right [] (sp_law_classes_right Tb K) := ok_law_classes_right F_law_classes_right T XC_InvalidCatalogue XC_InvalidNumber XC_InvalidSplits XC_InvalidStep XC_InvalidStock XC_InvalidText XC_TooManySteps G_law_error
    have G_law_classes_right : Fn (PySem.Challenge.rw_splitstock_k02_catalogue_errors).prog w K mg base "_law_classes_right" 3 [] (sp_law_classes_right Tb K) := ⟨_, _, O_law_classes_right, g_law_classes_right, F_law_classes_right.kp, F_law_classes_right.bindsN (fun _ _ _ _ _ _ us hl => match us, hl with | [], _ => rfl)⟩
    exact ok_law F_law T G_law_bad_entry G_law_classes_right G_law_draw G_law_entries G_law_raised G_law_same G_law_source G_law_spoilt
end Sk
open PySem PySem.W PySem.Calls PyProof.Rows
theorem PySem.Challenge.cw_splitstock_k02_catalogue_errors_holds : PySem.Challenge.rw_splitstock_k02_catalogue_errors.Holds := by
  w_on; o_law
  refine HandSHeadRun.head_any (r := OpenLaw.row PySem.Challenge.rw_splitstock_k02_catalogue_errors) (q := view (OpenLaw.row PySem.Challenge.rw_splitstock_k02_catalogue_errors).prog [39]) (H := Sk.hHk) (ob := Sk.hOb) (M := 4000) (loose := Sk.hLoose) (d := HandSHeadRun.topDef (OpenLaw.row PySem.Challenge.rw_splitstock_k02_catalogue_errors).prog 39) (kwd := []) Sk.hOb_eq
    (by kernel_rfl) (fun s => by kernel_rfl) Sk.hRun (by kernel_rfl) (by kernel_rfl) (by kernel_rfl) (by rfl) (by first | assumption | decide +kernel) (by decide +kernel) ⟨rfl, rfl, rfl, rfl, rfl, by decide +kernel⟩ ?hw ?hc
  case hw => w_witness2
  case hc =>
    refine Sk.walk_ofG (l := PySem.Challenge.rw_splitstock_k02_catalogue_errors) (n := 63) (k := 9) (x := "script") rfl (by decide) (by kernel_rfl) ⟨rfl, by decide, by decide⟩ ?_
    intro w mg fa h Y G hmg0
    obtain ⟨K, KX, c⟩ := Y
    have hmg : mg ("law" : PySem.Str) = some (.ref fa) := by
      have e : (HandSHeadRun.topDef (OpenLaw.row PySem.Challenge.rw_splitstock_k02_catalogue_errors).prog 39).name = ("law" : PySem.Str) := by kernel_rfl
      rw [← e]
      exact hmg0
    exact ⟨K, KX, Sk.hFacts KX G hmg c⟩
