import PyProof.Rows.All
import Wide.All
import OpenK.AllK
import Wide.FinOn
import KE.KStateDown
import HandS.ForMost
import HandS.Defaults
import HandS.Exc
import HandS.Codes
import HandS.TryOnly
import HandS.Lambda
import HandS.EndTab
import HandS.Head0
import HandS.Head1
import HandS.Head2
import HandS.HeadEnd
import HandS.HeadHook1
import HandS.HeadHook2
import HandS.HeadHook3
import HandS.HeadHook4
import HandS.HeadWalk
import HandS.Sort
import HandS.SortOrd
import HandS.SortRule
import HandS.SortInts
import HandS.SortKw
import HandS.Wide
import HandS.SetKeys
import HandS.DictComp
import HandS.IsInst
import HandS.Deep
import HandS.Style
import HandS.Finally
import HandS.ListItems
import HandS.CallLocal
import HandS.SetFor
import HandS.RaiseMore
import HandS.Zip
import HandS.Conv
import HandS.Strs
import KE.KSortTupAny
import KE.KSortKey
import PySem.Challenge.RW_splitstock_k41_catalogues_written
import HandS.Walk
import PyProof.NeKinds
import HandS.Iter
import PyProof.SumAny
import KE.KDictSum
import HandS.MapSum
import PyProof.ReprRoads
import PyProof.StrLawsRepr
import PyProof.FitsInt
import PyProof.EqAt
import PyProof.SeqRoads2
import PyProof.Rows.SetFrom
import PyProof.Rows.SortShellSt
import HandS.Set
import KE.KUnpackStar
import HandS.Text
set_option Elab.async false
set_option linter.all false
set_option maxRecDepth 100000
set_option maxHeartbeats 4000000
/-! sorting tuples that begin (int, text) -/
namespace Sk
open PySem PySem.Spec PyProof.Rows L2
/-- an int, then a text -/
def kLt (p q : Int × Str) : Bool := if p.1 = q.1 then decide (p.2.cps.toList < q.2.cps.toList) else decide (p.1 < q.1)
theorem kLt_iff {p q : Int × Str} : kLt p q = true ↔ p.1 < q.1 ∨ (p.1 = q.1 ∧ p.2.cps.toList < q.2.cps.toList) := by
  unfold kLt
  by_cases e : p.1 = q.1
  · rw [if_pos e, decide_eq_true_eq]
    constructor
    · exact fun h => .inr ⟨e, h⟩
    · rintro (h | h)
      · omega
      · exact h.2
  · rw [if_neg e, decide_eq_true_eq]
    constructor
    · exact fun h => .inl h
    · rintro (h | h)
      · exact h
      · exact absurd h.1 e
theorem kLt_no {p q : Int × Str} : kLt p q = false ↔ q.1 < p.1 ∨ (p.1 = q.1 ∧ ¬ p.2.cps.toList < q.2.cps.toList) := by
  unfold kLt
  by_cases e : p.1 = q.1
  · rw [if_pos e, decide_eq_false_iff_not]
    constructor
    · exact fun h => .inr ⟨e, h⟩
    · rintro (h | h)
      · omega
      · exact h.2
  · rw [if_neg e, decide_eq_false_iff_not]
    constructor
    · exact fun h => .inl (by omega)
    · rintro (h | h)
      · omega
      · exact absurd h.1 e
theorem str_ext {x y : Str} (h : x.cps.toList = y.cps.toList) : x = y := by
  have hc : x.cps = y.cps := Array.toList_inj.mp h
  cases x; cases y
  simp only [Str.mk.injEq]
  exact hc
theorem kLt_total {p q : Int × Str} (h1 : kLt p q = false) (h2 : kLt q p = false) : p = q := by
  rcases kLt_no.mp h1 with a | ⟨a, b⟩
  · rcases kLt_no.mp h2 with c | ⟨c, d⟩ <;> omega
  · rcases kLt_no.mp h2 with c | ⟨c, d⟩
    · omega
    · have e : p.2.cps.toList = q.2.cps.toList := strKind.total _ _ (decide_eq_false b) (decide_eq_false d)
      obtain ⟨i, x⟩ := p
      obtain ⟨j, y⟩ := q
      have e2 := str_ext e
      simp only at a e2
      rw [a, e2]
theorem kLt_swo {α : Type} (k : α → Int × Str) : SrtO.Swo fun x y => kLt (k x) (k y) := by
  refine ⟨fun x y h => ?_, fun x y z h1 h2 => ?_⟩
  · refine kLt_no.mpr ?_
    rcases kLt_iff.mp h with a | ⟨a, b⟩
    · exact .inl a
    · exact .inr ⟨a.symm, fun c => List.lt_irrefl _ (List.lt_trans b c)⟩
  · refine kLt_no.mpr ?_
    rcases kLt_no.mp h1 with a | ⟨a, b⟩
    · rcases kLt_no.mp h2 with c | ⟨c, d⟩
      · exact .inl (by omega)
      · exact .inl (by omega)
    · rcases kLt_no.mp h2 with c | ⟨c, d⟩
      · exact .inl (by omega)
      · refine .inr ⟨by omega, fun e => ?_⟩
        rcases strKind.negTrans _ (k y).2.cps.toList _ (decide_eq_true e) with q | q
        · exact d (of_decide_eq_true q)
        · exact b (of_decide_eq_true q)
/-- a tuple of the heap that begins with an int and a text -/
def IsT2 (h : Heap) (v : Value) (k : Int × Str) (rest : List Value) : Prop := ∃ a o t u n, v = .ref a ∧ h.get? a = some o ∧ o.cls = .type "tuple" ∧ o.data = .seq (Value.int k.1 t :: .str k.2 u :: rest).toArray n
theorem IsT2.keeps {h h' : Heap} {v : Value} {k : Int × Str} {rest : List Value} (p : IsT2 h v k rest) (kp : ∀ b o, h.get? b = some o → o.cls = .type "tuple" → h'.get? b = some o) : IsT2 h' v k rest := by
  obtain ⟨a, o, t, u, n, e, ho, hc, hd⟩ := p
  exact ⟨a, o, t, u, n, e, kp a o ho hc, hc, hd⟩
section
variable {prog : Program} {w : World} {A : Around} {E : Value → Shared → Prop} {s : Shared}
theorem eqBool_same {v : Value} {Q : Bool → Shared → Prop} (hv : (v == v) = true) (h : Q true s) : wpAny (model prog w) A (eqBool v v) Q E s := by
  unfold eqBool
  refine wpAny_holding ?_
  rw [hv]
  simp only [if_true]
  exact wpAny_bind (wpAny_rule (wpAny_pure h))
theorem kat_same {b : Bool} {Q : Bool → Shared → Prop} : ∀ (l : List Value) (i : Nat), (∀ v ∈ l, (v == v) = true) → Q false s → PySem.W.KatLex prog w A b false Q (l.zip l) i s
  | [], _, _, h => PySem.W.kat_nil h
  | v :: l, i, hv, h => by
    show PySem.W.KatLex prog w A b false Q ((v, v) :: l.zip l) i s
    refine PySem.W.kat_cons (eqBool_same (hv v (List.mem_cons_self ..)) (PySem.W.kat_yes ?_))
    exact kat_same l (i + 1) (fun u hu => hv u (List.mem_cons_of_mem _ hu)) h
/-- what any two of them answer -/
theorem t2_cmp {vs : List Value} {k : Value → Int × Str} {rest : Value → List Value} (hp : ∀ v ∈ vs, IsT2 s.heap v (k v) (rest v)) (hr : ∀ v ∈ vs, ∀ u ∈ rest v, (u == u) = true)
    (hi : ∀ v ∈ vs, ∀ u ∈ vs, k v = k u → rest v = rest u) : SrtO.Cmp prog w A s (tuples' true) (fun p => p.1 ∈ vs) (SrtO.lt2 fun v u => kLt (k v) (k u)) := by
  intro p q hm hm'
  obtain ⟨a, o, t, u, n, e, ho, hc, hd⟩ := hp _ hm
  obtain ⟨a', o', t', u', n', e', ho', hc', hd'⟩ := hp _ hm'
  have hi' := hi _ hm _ hm'
  have hr' := hr _ hm
  show wpAny (model prog w) A (keyLt' (tuples' true) p.1 q.1) (fun r s' => s' = s ∧ r = kLt (k p.1) (k q.1)) (fun _ _ => False) s
  generalize k p.1 = kp at hi' ⊢ hd
  generalize k q.1 = kq at hi' ⊢ hd'
  generalize rest p.1 = rp at hi' hr' hd
  generalize rest q.1 = rq at hi' hd'
  rw [e, e']
  refine PySem.W.kat_lt ho hd ho' hd' ?_
  obtain ⟨x, y⟩ := kp
  obtain ⟨x', y'⟩ := kq
  have key : ∀ fin : Bool, (x = x' → y = y' → fin = false) → PySem.W.KatLex prog w A true fin (fun r s' => s' = s ∧ r = kLt (x, y) (x', y')) ((.int x t, .int x' t') :: (.str y u, .str y' u') :: rp.zip rq) 0 s := by
    intro fin hf
    unfold kLt
    refine PySem.W.kat_cons (SeqAt.EqAt.int_int x t x' t' prog w _ _ ?_)
    refine PySem.W.kat_go (fun e1 => ?_) (fun e1 => ?_)
    · have ex : x = x' := by simpa using e1
      refine PySem.W.kat_yes (PySem.W.kat_cons (wpAny_eqBool_str ?_))
      refine PySem.W.kat_go (fun e2 => ?_) (fun e2 => ?_)
      · have ey : y = y' := of_decide_eq_true e2
        have e3 : (if x = x' then decide (y.cps.toList < y'.cps.toList) else decide (x < x')) = false := by
          rw [if_pos ex, ey]
          exact decide_eq_false (List.lt_irrefl _)
        have e4 := hi' (by rw [ex, ey])
        rw [← e4, hf ex ey]
        exact PySem.W.kat_yes (kat_same rp _ hr' ⟨rfl, e3.symm⟩)
      · have e3 : (if x = x' then decide (y.cps.toList < y'.cps.toList) else decide (x < x')) = decide (y.cps.toList < y'.cps.toList) := if_pos ex
        exact PySem.W.kat_no (oneLt_any_str ⟨rfl, e3.symm⟩)
    · have ex : ¬ x = x' := by simpa using e1
      have e3 : (if x = x' then decide (y.cps.toList < y'.cps.toList) else decide (x < x')) = decide (x < x') := if_neg ex
      exact PySem.W.kat_no (oneLt_int ⟨rfl, e3.symm⟩)
  have := key (decide ((Value.int x t :: .str y u :: rp).toArray.size < (Value.int x' t' :: .str y' u' :: rq).toArray.size)) (fun ex ey => by
    have e4 := hi' (by rw [ex, ey])
    rw [e4]
    simp)
  simpa using this
theorem t2_firsts {h : Heap} {k : Value → Int × Str} {rest : Value → List Value} : ∀ {vs : List Value}, (∀ v ∈ vs, IsT2 h v (k v) (rest v)) → ∃ fs, PySem.W.KatTups h vs fs ∧ fs.length = vs.length ∧ ∀ f ∈ fs, ∃ i t, f = Value.int i t
  | [], _ => ⟨[], .nil, rfl, fun _ h => nomatch h⟩
  | v :: vs, hp => by
    obtain ⟨fs, h1, h2, h3⟩ := t2_firsts (vs := vs) fun u hu => hp u (List.mem_cons_of_mem _ hu)
    obtain ⟨a, o, t, u, n, e, ho, hc, hd⟩ := hp v (List.mem_cons_self ..)
    subst e
    refine ⟨.int (k (.ref a)).1 t :: fs, .cons ho hc hd rfl h1, by rw [List.length_cons, List.length_cons, h2], fun f hf => ?_⟩
    rcases List.mem_cons.mp hf with rfl | hf
    · exact ⟨_, _, rfl⟩
    · exact h3 f hf
theorem t2_sortableO {a : Addr} {vs : List Value} {k : Value → Int × Str} {rest : Value → List Value} (h0 : 0 < vs.length) (hp : ∀ v ∈ vs, IsT2 s.heap v (k v) (rest v)) (hr : ∀ v ∈ vs, ∀ u ∈ rest v, (u == u) = true)
    (hi : ∀ v ∈ vs, ∀ u ∈ vs, k v = k u → rest v = rest u) (ha : ∀ o, s.heap.get? a = some o → o.cls ≠ .type "tuple") : SrtO.SortableO prog w A s a vs fun v u => kLt (k v) (k u) := by
  intro h' keep
  have hp' : ∀ v ∈ vs, IsT2 h' v (k v) (rest v) := fun v hm => (hp v hm).keeps fun b o e c => keep b o (fun z => by subst z; exact ha o e c) e
  obtain ⟨fs, h1, h2, h3⟩ := t2_firsts hp'
  refine ⟨tuples' true, fun Q E hq => ?_, t2_cmp hp' hr hi⟩
  refine PySem.W.kat_kind (T := .type "int") h1 (by omega) (fun f hm => ?_) (by rfl) ?_
  · obtain ⟨x, t, rfl⟩ := h3 f hm
    exact PySem.W.Looks.now
  · have e : (Value.type "int" != Value.type "tuple") = true := by first | decide +kernel | rfl | decide
    rw [e]
    exact hq
end

/-- sorted(xs), xs a list of tuples that begin with an int and a text (k says which); where two keys agree, the tuples are one or have no more items -/
def rSortedT (K : PySem.W.Frag) : List V → Hp → VK → Prop := fun vs H Q => ∃ (a : Addr) (xs : List V) (k : V → Int × Str) (rest : V → List V), vs = [V.ref a] ∧ SqL K H a xs ∧
  (∀ x ∈ xs, ∃ t, x = V.ref t ∧ H t = some (.tup (.int (k x).1 :: .str (k x).2 :: rest x))) ∧ (∀ x ∈ xs, ∀ r ∈ rest x, ∃ b, r = V.ref b) ∧ (∀ x ∈ xs, ∀ y ∈ xs, k x = k y → x = y ∨ (rest x = [] ∧ rest y = [])) ∧
  ∀ ys p, SrtO.Srtd (fun x y => kLt (k x) (k y)) ys → SrtO.Stb (fun x y => kLt (k x) (k y)) ys xs → H p = none → Q (.ref p) (upd H p (.lst ys))
def valOf : V → Value
  | .ref a => .ref a
  | _ => .none
section
variable {X : Cx}
theorem vals_refs : ∀ {rs : List V} {us : List Value}, Vals rs us → (∀ r ∈ rs, ∃ b, r = V.ref b) → us = rs.map valOf
  | _, _, .nil, _ => rfl
  | r :: rs, u :: us, .cons h t, hb => by
    obtain ⟨b, rfl⟩ := hb r (List.mem_cons_self ..)
    rw [vals_refs t fun x hx => hb x (List.mem_cons_of_mem _ hx)]
    obtain rfl : u = Value.ref b := h
    rfl
theorem cr_sortedT : CallR X (.builtin "sorted") (rSortedT X.K) := by
  intro pins s σ H vs us Q I r h
  obtain ⟨a, xs, k, rest, rfl, hs, hx, hrf, hi, q⟩ := h
  obtain ⟨its, rv, hl, hz⟩ := I.list hs
  obtain ⟨u, rfl, ru⟩ := vals1 r
  obtain rfl : u = Value.ref a := ru
  obtain ⟨e1, e2⟩ := refs_back rv fun x m => by
    obtain ⟨t, e, _⟩ := hx x m
    exact ⟨t, e⟩
  have hm : ∀ t, Value.ref t ∈ its → V.ref t ∈ xs := fun t hv => by rw [e1]; exact List.mem_map.mpr ⟨_, hv, rfl⟩
  have hp : ∀ v ∈ its, IsT2 s.heap v (k (backV v)) ((rest (backV v)).map valOf) := fun v hv => by
    obtain ⟨t, rfl⟩ := e2 v hv
    obtain ⟨t', e, ht⟩ := hx _ (hm t hv)
    cases e
    obtain ⟨_, its2, r2, o, ho, hc, n, hd⟩ := I.hok _ _ ht
    cases r2 with
    | cons ri r2 =>
      cases r2 with
      | cons rj r2 =>
        obtain ⟨t1, rfl⟩ := ri
        obtain ⟨t2, rfl⟩ := rj
        rw [vals_refs r2 (hrf _ (hm t hv))] at hd
        exact ⟨t, o, t1, t2, n, rfl, ho, hc, hd⟩
  have hr : ∀ v ∈ its, ∀ u ∈ (rest (backV v)).map valOf, (u == u) = true := fun v hv u hu => by
    obtain ⟨x, hx', rfl⟩ := List.mem_map.mp hu
    obtain ⟨t, rfl⟩ := e2 v hv
    obtain ⟨b, rfl⟩ := hrf _ (hm t hv) _ hx'
    show (Value.ref b == Value.ref b) = true
    simp [valOf]
  have hi' : ∀ v ∈ its, ∀ u ∈ its, k (backV v) = k (backV u) → (rest (backV v)).map valOf = (rest (backV u)).map valOf := fun v hv u hu e => by
    obtain ⟨t, rfl⟩ := e2 v hv
    obtain ⟨t', rfl⟩ := e2 u hu
    rcases hi _ (hm t hv) _ (hm t' hu) e with z | ⟨z1, z2⟩
    · show (rest (V.ref t)).map valOf = (rest (V.ref t')).map valOf
      rw [z]
    · show (rest (V.ref t)).map valOf = (rest (V.ref t')).map valOf
      rw [z1, z2]
  refine SrtO.sorted_ord (ltv := fun v u => kLt (k (backV v)) (k (backV u))) (kLt_swo fun v => k (backV v)) hl.isList (by rw [← rv.length]; exact hz) (fun h2 h₁ a' ha kk => ?_) fun out h1 h2 => ?_
  · refine t2_sortableO (s := { s with heap := h₁ }) (rest := fun v => (rest (backV v)).map valOf) (by omega) (fun v hm => (hp v hm).keeps fun b o e _ => (kk b o e).2) hr hi' fun o e => ?_
    have e' : some o = some (seqObj "list" its.toArray 0) := e.symm.trans ha
    cases e'
    intro c
    exact absurd (Value.type.inj c) (by decide)
  · have h3 : ∀ u ∈ out, ∃ a, u = Value.ref a := fun u hu => e2 u (h2.perm.mem_iff.mp hu)
    obtain ⟨n, hn⟩ := sortedAll_at s.heap its out.toArray
    have hd : s.heap.objs.size ≤ s.heap.objs.size + 1 := Nat.le_succ _
    have hb : SrtO.Stb (fun x y => kLt (k x) (k y)) (out.map backV) xs := by
      rw [e1]
      exact SrtO.Stb.map (kLt_swo k) backV h2
    refine ⟨.ref (s.heap.objs.size + 1), upd H (s.heap.objs.size + 1) (.lst (out.map backV)), I.laid (t' := s.toks) (fun b o e => sortedAll_old e) hd ⟨?_, out, n, vals_back h3, hn⟩, rfl, q _ _ (SrtO.srtd_map h1) hb (I.hok.fresh hd)⟩
    rw [hb.len]
    exact hz
end
end Sk
/-! sorted(xs, key=lambda x: ..) -/
namespace Sk
open PySem PySem.Spec PyProof.Rows L2
section
variable {P : Program} {w : World} {K : PySem.W.Frag} {mg : Str → Option Value} {base : Heap}
/-- a lambda of parameters and no captured names, called -/
theorem lam_run {N ps : List Str} {k : Nat} {q : Str} {params : Arguments} {body : Expr} {scope : Scope} {pm ctv : Value} {f c' : Addr} {A : Around} {outer : List Env} {s : Shared} {H : Hp} {us : List Value} {vs : List V} {Q : VK} {E : XK} {te : TE}
    (of1 : s.heap.get? f = some (PySem.W.kla_obj "<lambda>" q params body scope [] pm c' ctv)) (S : FnScope N ps scope)
    (hb : bindArgs (PySem.W.kla_fn "<lambda>" q params body scope [] pm (.ref c') ctv) ⟨us, []⟩ = pure (ps.zip us)) (hr : Room (k + 1) A) (e0 : Env0 P w K mg base A outer s H) (hc : H c' = some (LamX.CodeO c' q))
    (r : Vals vs us) (hl : vs.length = ps.length)
    (hbody : PE (cxOf CX0 P w K mg base N q scope f (.ref c') A outer s H E) body te) (ht : te (start N vs) H Q) :
    codeAny (model P w) A (.call (.ref f) ⟨us, []⟩) (CR CX0 outer P w H s Q E) s := by
  have lim : s.heap.NoLimit := e0.mod.nolimit.keeps fun b o e => (e0.bs b o e).1
  obtain ⟨⟨oc, vs', t, hoc, hdc, hvc⟩, _, _⟩ := e0.hok c' _ hc
  have hkind : ∀ y ∈ ps.zip us, scope.names.lookup y.1 = some .local ∨ (scope.names.lookup y.1 = some .cell ∧ ((cellsFrom (s.heap.objs.size + 1) scope.names []).lookup y.1).isSome = true) := fun ⟨n, v⟩ hy => by
    rcases S.par n (List.of_mem_zip hy).1 with q | q
    · exact .inl q
    · exact .inr ⟨q, PySem.W.cellsFrom_some _ _ _ (.inl q)⟩
  refine PySem.W.kla_callFunE hr.depth of1 rfl S.co S.gen rfl ⟨c', oc, vs', t, rfl, hoc, hdc, hvc⟩ ?_
  rw [hb]
  refine wpAny_pure (wpAny_newFunctionEnv_cells S.kind hkind fun env he s1 x => ?_)
  subst he
  refine ⟨lim.keeps x.toInCall.keep, PySem.W.kla_codeExpr ?_⟩
  have I : Inv (cxOf CX0 P w K mg base N q scope f (.ref c') A outer s H E) [] (start N vs) H s1 := inv_start S hr.hd e0 hl r x
  refine wpAny_mono (hbody.run [] s1 (start N vs) H Q I ht) (fun v s' hq => ?_) fun e s' hs => hs
  obtain ⟨w', H', J', rv, q⟩ := hq
  exact ⟨w', H', J'.os, J'.bare, J'.base, J'.hok, rv, q⟩
end
/-- objects that no one tracks are changed: the abstract heap is held -/
theorem hok_but {P : Program} {w : World} {H : Hp} {h h' : Heap} (ok : HOk P w H h) (k : ∀ b u, H b ≠ none → h.get? b = some u → h'.get? b = some u) : HOk P w H h' := fun b u e => by
  refine (ok b u e).stay (fun c v hc q => k c v ?_ q) (fun _ q => q) fun _ _ q => q
  rcases hc with z | z
  · rw [z, e]
    simp
  · rw [z]
    simp
/-- a new list, filled meanwhile, is tracked in the end -/
theorem hok_late {P : Program} {w : World} {H : Hp} {h : Heap} {a : Addr} {o : HO} (ok : HOk P w H h) (hn : H a = none) (new : ObjOk P w (upd H a o) h a o) : HOk P w (upd H a o) h := fun b u e => by
  by_cases hb : b = a
  · subst hb; rw [upd_same] at e; cases e; exact new
  · rw [upd_ne hb] at e
    exact (ok b u e).stay (fun c v _ q => q) (fun c q => by rw [upd_ne (ne_of_none q hn)]; exact q) fun c xs q => by rw [upd_ne (ne_of_none q hn)]; exact q
theorem un_but {fs : List Addr} {H H' : Hp} {h h' h2 : Heap} (u : Un fs [] H H' h h') (k : ∀ b o, b < h.objs.size → h'.get? b = some o → h2.get? b = some o) : Un fs [] H H' h h2 where
  keep := fun b o e n hb hx => k b o (Heap.lt_size e) (u.keep b o e n hb hx)
  slot := fun b o e n hb hx => by
    obtain ⟨sl, q⟩ := u.slot b o e n hb hx
    exact ⟨sl, k b _ (Heap.lt_size e) q⟩
  free := u.free
  there := fun b o e hx => by
    obtain ⟨o', q⟩ := u.there b o e hx
    exact ⟨o', k b o' (Heap.lt_size e) q⟩
  tups := u.tups
  frzs := u.frzs
  tbls := u.tbls
theorem un_late {fs : List Addr} {H H' : Hp} {h h' : Heap} {a : Addr} {o : HO} (u : Un fs [] H H' h h') (ha : h.objs.size ≤ a) (hn : H' a = none) : Un fs [] H (upd H' a o) h h' where
  keep := u.keep
  slot := u.slot
  free := fun b o e n hx => by
    rw [upd_ne (fun z => by rw [z] at e; exact Nat.lt_irrefl _ (Nat.lt_of_lt_of_le (Heap.lt_size e) ha))]
    exact u.free b o e n hx
  there := u.there
  tups := fun b xs e => by
    have q := u.tups b xs e
    rw [upd_ne (ne_of_none q hn)]
    exact q
  frzs := fun b o' x e => by
    have q := u.frzs b o' x e
    rw [upd_ne (ne_of_none q hn)]
    exact q
  tbls := fun b ps e => by
    obtain ⟨m, q⟩ := u.tbls b ps e
    exact ⟨m, by rw [upd_ne (ne_of_none q hn)]; exact q⟩
/-! ### the sort by keys, raw -/
section
variable {prog : Program} {w : World} {A : Around} {E : Value → Shared → Prop} {s : Shared}
theorem key_tail {a kS : Addr} {vs ks : List Value} {e e1 : Nat} {R : PySem.Fin → Shared → Prop} {st : SortSt} (hk : s.heap.get? kS = some (seqObj "list" ks.toArray e)) (ha : s.heap.get? a = some (seqObj "list" #[] e1)) (hka : kS ≠ a)
    (hz : ks.length ≤ sizeLine) (hsz : (arrOf st).size ≤ sizeLine) (hfl : failedOf st = none)
    (h : ∀ h' c, (∀ b o, b ≠ a → b ≠ kS → s.heap.get? b = some o → h'.get? b = some o) → h'.get? a = some (seqObj "list" ((arrOf st).map (·.2)) c) → R (.done (.ret .none)) { s with heap := h' }) :
    wpAny (model prog w) A (ksk_tail a false e1 (.ref kS) st) R E s := by
  have s1 := Heap.SameBut.update s.heap kS (Obj.mapSeq fun _ => (#[] : Array Value))
  have na1 : (s.heap.update kS (Obj.mapSeq fun _ => (#[] : Array Value))).get? a = some (seqObj "list" #[] e1) := (s1.2 a hka.symm).trans ha
  have s2 := Heap.SameBut.update (s.heap.update kS (Obj.mapSeq fun _ => (#[] : Array Value))) a (Obj.mapSeq fun _ => (arrOf st).map (·.2))
  obtain ⟨c2, hc2⟩ : ∃ c2, ((s.heap.update kS (Obj.mapSeq fun _ => (#[] : Array Value))).update a (Obj.mapSeq fun _ => (arrOf st).map (·.2))).get? a = some (seqObj "list" ((arrOf st).map (·.2)) c2) :=
    ⟨_, get?_update_seq na1 fun _ => (arrOf st).map (·.2)⟩
  unfold ksk_tail
  try dsimp only
  refine wpAny_bind (listUpdate_at hk rfl ?_ (by rw [List.size_toArray]; exact hz) (Nat.zero_le _))
  refine wpAny_bind (wpAny_letGo ?_)
  refine wpAny_bind (seqEpoch_at na1 rfl ?_)
  refine wpAny_bind (listUpdate_at na1 rfl ?_ (Nat.zero_le _) (by simp only [Bool.false_eq_true, if_false, Array.size_map]; omega))
  rw [hfl]
  simp only [bne_self_eq_false, Bool.false_eq_true, if_false]
  exact wpAny_pure (h _ c2 (fun b o h1 h2 q => (s2.2 b h1).trans ((s1.2 b h2).trans q)) hc2)
theorem key_end {a kS : Addr} {vs ks : List Value} {e e1 : Nat} {R : PySem.Fin → Shared → Prop} {lt : Keyed → Keyed → Bool} (O : SrtO.Swo lt) (hk : s.heap.get? kS = some (seqObj "list" ks.toArray e)) (ha : s.heap.get? a = some (seqObj "list" #[] e1)) (hka : kS ≠ a)
    (hlen : ks.length = vs.length) (hz : vs.length ≤ sizeLine)
    (hS : 2 ≤ vs.length → ∃ κ, (∀ (Q : SortKind → Shared → Prop) (E : Value → Shared → Prop), Q κ s → wpAny (model prog w) A (keyKind' ks.toArray) Q E s) ∧ SrtO.Cmp prog w A s κ (fun p => p.1 ∈ ks) lt)
    (h : ∀ (ps : List Keyed) h' c, SrtO.Srtd lt ps → SrtO.Stb lt ps (ks.zip vs) → (∀ b o, b ≠ a → b ≠ kS → s.heap.get? b = some o → h'.get? b = some o) → h'.get? a = some (seqObj "list" (ps.map (·.2)).toArray c) → R (.done (.ret .none)) { s with heap := h' }) :
    wpAny (model prog w) A (ksk_end a false vs.toArray e1 (.ref kS) ks.toArray) R E s := by
  have hzs : (ks.toArray.zip vs.toArray).size = vs.length := by rw [Array.size_zip, List.size_toArray, List.size_toArray, hlen, Nat.min_self]
  have ez : (ks.toArray.zip vs.toArray).toList = ks.zip vs := ksk_zip _ _
  have fin : ∀ st : SortSt, SrtO.Srtd lt (arrOf st).toList → SrtO.Stb lt (arrOf st).toList (ks.zip vs) → failedOf st = none → wpAny (model prog w) A (ksk_tail a false e1 (.ref kS) st) R E s := by
    intro st h1 h2 hf
    have hl := h2.len
    rw [List.length_zip, hlen, Nat.min_self, Array.length_toList] at hl
    refine key_tail (vs := vs) hk ha hka (by omega) (by omega) hf fun h' c k ho => ?_
    refine h _ h' c h1 h2 k ?_
    rw [ho]
    congr 2
    apply Array.toList_inj.mp
    simp
  unfold ksk_end
  try dsimp only
  simp only [Bool.false_eq_true, if_false]
  by_cases h2 : vs.toArray.size < 2
  · rw [if_pos h2, if_pos h2]
    refine wpAny_bind (wpAny_pure ?_)
    rw [StateT.run_pure]
    refine wpAny_bind (wpAny_pure ?_)
    try dsimp only
    refine fin (SortSt.mk' general' (ks.toArray.zip vs.toArray) #[] 7 none) ?_ (SrtO.Stb.of_eq ez) rfl
    show SrtO.Srtd lt (ks.toArray.zip vs.toArray).toList
    rw [ez]
    have hl : (ks.zip vs).length < 2 := by
      rw [List.length_zip, hlen, Nat.min_self]
      simpa using h2
    match ks.zip vs, hl with
    | [], _ => exact List.Pairwise.nil
    | [v], _ => exact List.pairwise_singleton _ _
    | _ :: _ :: l, h => exact absurd h (by rw [List.length_cons, List.length_cons]; omega)
  · rw [if_neg h2, if_neg h2]
    obtain ⟨κ, hkind, hT⟩ := hS (by simpa using h2)
    refine wpAny_bind (hkind _ _ ?_)
    have hall : SrtO.AllL (fun p : Keyed => p.1 ∈ ks) (ks.toArray.zip vs.toArray).toList := fun p hm => by
      rw [ez] at hm
      exact (List.of_mem_zip (show (p.1, p.2) ∈ ks.zip vs from hm)).1
    refine wpAny_bind (wpAny_mono (SrtO.wpS_sortO (st0 := SortSt.mk' κ (ks.toArray.zip vs.toArray) #[] 7 none)
      (Q := fun _ st' => SrtO.Srtd lt (arrOf st').toList ∧ SrtO.Stb lt (arrOf st').toList (ks.toArray.zip vs.toArray).toList ∧ failedOf st' = none) O hT rfl hall rfl rfl fun st' a1 a2 a3 => ⟨a1, a2, a3⟩) ?_ fun _ _ e => e)
    rintro ⟨⟨⟩, st'⟩ s' ⟨rfl, hp1, hp2, hf⟩
    try dsimp only
    rw [ez] at hp2
    exact fin st' hp1 hp2 hf
/-- sorted(l, key=f): J tells of the two lists that grow meanwhile -/
theorem sorted_key {l q : Addr} {vs : List Value} {Q : Value → Shared → Prop} (J : Addr → Addr → List Value → Shared → Prop) (hl : s.heap.IsList l vs.toArray) (hz : vs.length ≤ sizeLine)
    (start : ∀ (a kS : Addr) (h : Heap) (e1 : Nat), (∀ b o, s.heap.get? b = some o → h.get? b = some o) → s.heap.objs.size ≤ a → s.heap.objs.size ≤ kS → kS ≠ a → h.get? kS = some (seqObj "list" #[] 0) → h.get? a = some (seqObj "list" #[] e1) → J a kS [] { s with heap := h })
    (turn : ∀ (a kS : Addr) (e e1 : Nat) (ks : List Value) (x : Value) (s' : Shared), vs[ks.length]? = some x → J a kS ks s' → kS ≠ a → s'.heap.get? kS = some (seqObj "list" ks.toArray e) → s'.heap.get? a = some (seqObj "list" #[] e1) →
      wpAny (model prog w) A.in1.in1 (call (.ref q) [x]) (fun v s2 => s2.heap.get? kS = some (seqObj "list" ks.toArray e) ∧ s2.heap.get? a = some (seqObj "list" #[] e1) ∧
        ∀ h3, (∀ b o, b ≠ kS → s2.heap.get? b = some o → h3.get? b = some o) → J a kS (ks ++ [v]) { s2 with heap := h3 }) (fun _ _ => False) s')
    (done : ∀ (a kS : Addr) (e e1 : Nat) (ks : List Value) (s' : Shared), J a kS ks s' → ks.length = vs.length → kS ≠ a → s'.heap.get? kS = some (seqObj "list" ks.toArray e) → s'.heap.get? a = some (seqObj "list" #[] e1) →
      ∃ lt : Keyed → Keyed → Bool, SrtO.Swo lt ∧ (2 ≤ vs.length → ∃ κ, (∀ (Q : SortKind → Shared → Prop) (E : Value → Shared → Prop), Q κ s' → wpAny (model prog w) A.in1.in1 (keyKind' ks.toArray) Q E s') ∧ SrtO.Cmp prog w A.in1.in1 s' κ (fun p => p.1 ∈ ks) lt) ∧
        ∀ (ps : List Keyed) h' c, SrtO.Srtd lt ps → SrtO.Stb lt ps (ks.zip vs) → (∀ b o, b ≠ a → b ≠ kS → s'.heap.get? b = some o → h'.get? b = some o) → h'.get? a = some (seqObj "list" (ps.map (·.2)).toArray c) → Q (.ref a) { s' with heap := h' }) :
    wpAny (model prog w) A (call (.builtin "sorted") [.ref l] [(Str.ofString "key", .ref q)]) Q E s := by
  refine call_function_entry_kw kind_sorted plain_sorted entry_sorted (ksk_s1 _ _) ?_
  unfold Builtin.«sorted»
  refine wpAny_bind (m := checkCount "sorted" 1 1 _) (wpAny_pure ?_)
  refine wpAny_bind (collect_list hl ?_ hz)
  refine wpAny_bind (wpAny_newList ?_ hz)
  have hsz : ((s.heap.push (seqObj "list" #[] 0)).update s.heap.objs.size (Obj.mapSeq (· ++ vs.toArray))).objs.size = s.heap.objs.size + 1 := by
    rw [Heap.size_update, size_push']
  have hoL : (((s.heap.push (seqObj "list" #[] 0)).update s.heap.objs.size (Obj.mapSeq (· ++ vs.toArray))).push (seqObj "list" vs.toArray 0)).get? (s.heap.objs.size + 1) = some (seqObj "list" vs.toArray 0) := by
    rw [← hsz]; exact Heap.get?_push_size _ rfl
  have keep : ∀ b o, s.heap.get? b = some o → b < s.heap.objs.size ∧ (((s.heap.push (seqObj "list" #[] 0)).update s.heap.objs.size (Obj.mapSeq (· ++ vs.toArray))).push (seqObj "list" vs.toArray 0)).get? b = some o := fun b o q => by
    have hlt : b < s.heap.objs.size := Heap.lt_size q
    refine ⟨hlt, Heap.get?_push_of_some _ ?_⟩
    rw [Heap.get?_update_ne _ _ _ _ (Nat.ne_of_lt hlt)]
    exact Heap.get?_push_of_some _ q
  show wpAny _ _ _ _ _ { s with heap := ((s.heap.push (seqObj "list" #[] 0)).update s.heap.objs.size (Obj.mapSeq (· ++ vs.toArray))).push (seqObj "list" vs.toArray 0) }
  rw [hsz]
  generalize hg : ((s.heap.push (seqObj "list" #[] 0)).update s.heap.objs.size (Obj.mapSeq (· ++ vs.toArray))).push (seqObj "list" vs.toArray 0) = g at hoL keep ⊢
  have gsz : g.objs.size = s.heap.objs.size + 2 := by
    rw [← hg, size_push', hsz]
  refine wpAny_bind (wpAny_holding (wpAny_call_entry_kw slot_list_sort ⟨_, hoL, rfl⟩ entry_list_sort ?body (ksk_l1 _ _)))
  case body =>
    rw [ksk_t1]
    have ha : s.heap.objs.size + 1 < g.objs.size := Heap.lt_size hoL
    have s1 := Heap.SameBut.update g (s.heap.objs.size + 1) (Obj.mapSeq fun _ => (#[] : Array Value))
    obtain ⟨e1, ho1⟩ : ∃ e1, (g.update (s.heap.objs.size + 1) (Obj.mapSeq fun _ => (#[] : Array Value))).get? (s.heap.objs.size + 1) = some (seqObj "list" #[] e1) := ⟨_, get?_update_seq hoL fun _ => #[]⟩
    have hkS : ((g.update (s.heap.objs.size + 1) (Obj.mapSeq fun _ => (#[] : Array Value))).push (seqObj "tuple" vs.toArray 0)).objs.size = s.heap.objs.size + 3 := by rw [size_push', Heap.size_update, gsz]
    unfold ksk_tree
    refine wpAny_bind (listItems_at hoL rfl ?_)
    refine wpAny_bind (listUpdate_at hoL rfl ?_ (by rw [List.size_toArray]; exact hz) (Nat.zero_le _))
    refine wpAny_bind (seqEpoch_at ho1 rfl ?_)
    refine wpAny_bind (wpAny_newTuple ?_ (by show vs.length ≤ _; exact hz))
    refine wpAny_bind (wpAny_newList ?_ (Nat.zero_le _))
    refine wpAny_holding ?_
    have hk0 : (((g.update (s.heap.objs.size + 1) (Obj.mapSeq fun _ => (#[] : Array Value))).push (seqObj "tuple" vs.toArray 0)).push (seqObj "list" #[] 0)).get? (s.heap.objs.size + 3) = some (seqObj "list" #[] 0) := by
      rw [← hkS]; exact Heap.get?_push_size _ rfl
    have ha0 : (((g.update (s.heap.objs.size + 1) (Obj.mapSeq fun _ => (#[] : Array Value))).push (seqObj "tuple" vs.toArray 0)).push (seqObj "list" #[] 0)).get? (s.heap.objs.size + 1) = some (seqObj "list" #[] e1) :=
      Heap.get?_push_of_some _ (Heap.get?_push_of_some _ ho1)
    have keep2 : ∀ b o, s.heap.get? b = some o → (((g.update (s.heap.objs.size + 1) (Obj.mapSeq fun _ => (#[] : Array Value))).push (seqObj "tuple" vs.toArray 0)).push (seqObj "list" #[] 0)).get? b = some o := fun b o e => by
      obtain ⟨hlt, e'⟩ := keep b o e
      refine Heap.get?_push_of_some _ (Heap.get?_push_of_some _ ((s1.2 b ?_).trans e'))
      exact Nat.ne_of_lt (Nat.lt_succ_of_lt hlt)
    show wpAny (model prog w) A.in1.in1 (ksk_rest (s.heap.objs.size + 1) (.ref q) false vs.toArray _ (.ref ((g.update (s.heap.objs.size + 1) (Obj.mapSeq fun _ => (#[] : Array Value))).push (seqObj "tuple" vs.toArray 0)).objs.size)) _ _ { s with heap := ((g.update (s.heap.objs.size + 1) (Obj.mapSeq fun _ => (#[] : Array Value))).push (seqObj "tuple" vs.toArray 0)).push (seqObj "list" #[] 0) }
    rw [hkS]
    have hne : s.heap.objs.size + 3 ≠ s.heap.objs.size + 1 := by omega
    have J0 := start (s.heap.objs.size + 1) (s.heap.objs.size + 3) _ e1 keep2 (by show s.heap.objs.size ≤ s.heap.objs.size + 1; omega) (by show s.heap.objs.size ≤ s.heap.objs.size + 3; omega) hne hk0 ha0
    generalize s.heap.objs.size + 1 = a at *
    generalize s.heap.objs.size + 3 = kS at *
    generalize ((g.update a (Obj.mapSeq fun _ => (#[] : Array Value))).push (seqObj "tuple" vs.toArray 0)).push (seqObj "list" #[] 0) = h6 at *
    unfold ksk_rest
    refine wpAny_bind (wpAny_rule ?_)
    first
      | rw [List.forIn_toArray]
      | (rw [← Array.forIn_toList]; simp only [List.toList_toArray])
      | rw [← Array.forIn_toList]
    refine wpAny_bind (ksk_fold (fun i s' => ∃ ks e, ks.length = i ∧ J a kS ks s' ∧ s'.heap.get? kS = some (seqObj "list" ks.toArray e) ∧ s'.heap.get? a = some (seqObj "list" #[] e1)) vs 0 _
      ⟨[], 0, rfl, J0, hk0, ha0⟩ ?step ?done)
    case step =>
      rintro j x s' hx ⟨ks, e, hlen, hJ, hk, ha'⟩
      simp only [Nat.zero_add] at hlen ⊢
      have hj : j < vs.length := (List.getElem?_eq_some_iff.mp hx).1
      refine wpAny_bind (wpAny_attempt (wpAny_mono (turn a kS e e1 ks x s' (by rw [hlen]; exact hx) hJ hne hk ha') (fun v s'' he => ?_) fun _ _ hF => hF.elim))
      obtain ⟨hk2, ha2, hJ2⟩ := he
      try dsimp only
      have s1 := Heap.SameBut.update s''.heap kS (Obj.mapSeq (·.push v))
      obtain ⟨c2, hc2⟩ : ∃ c2, (s''.heap.update kS (Obj.mapSeq (·.push v))).get? kS = some (seqObj "list" (ks.toArray.push v) c2) := ⟨_, get?_update_seq hk2 (·.push v)⟩
      have ea : ks.toArray.push v = (ks ++ [v]).toArray := by simp
      refine wpAny_bind (listUpdate_at hk2 rfl ?_ (by rw [List.size_toArray]; omega) (by rw [Array.size_push, List.size_toArray]; omega))
      refine wpAny_pure ⟨rfl, ks ++ [v], c2, by rw [List.length_append, List.length_singleton, hlen], hJ2 _ fun b o hb q => (s1.2 b hb).trans q, ?_, (s1.2 a hne.symm).trans ha2⟩
      rw [← ea]
      exact hc2
    case done =>
      rintro s' ⟨ks, e, hlen, hJ, hk, ha'⟩
      rw [Nat.zero_add] at hlen
      try dsimp only
      refine wpAny_bind (listItems_at hk rfl ?_)
      obtain ⟨lt, O, hS, hq⟩ := done a kS e e1 ks s' hJ hlen hne hk ha'
      exact key_end O hk ha' hne hlen hz hS fun ps h' c h1 h2 k ho => ⟨_, rfl, wpAny_pure ⟨_, rfl, hq ps h' c h1 h2 k ho⟩⟩
end
end Sk
namespace Sk
open PySem PySem.Spec PyProof.Rows L2
/-- the key that a tracked tuple is -/
def kvOf (H : Hp) : Value → Int × Str
  | .ref p => match H p with
    | some (.tup [.int i, .str n]) => (i, n)
    | _ => (0, Str.empty)
  | _ => (0, Str.empty)
theorem kvOf_at {H : Hp} {p : Addr} {i : Int} {n : Str} (h : H p = some (.tup [.int i, .str n])) : kvOf H (.ref p) = (i, n) := by
  show (match H p with
    | some (.tup [.int i, .str n]) => (i, n)
    | _ => (0, Str.empty)) = (i, n)
  rw [h]
/-- sorted(e, key=lambda y: ..): the key of each item y is the pair k y -/
def SortLamQ (K : PySem.W.Frag) (T : List (Addr × Str)) (N : List Str) (tk : TE) (Q : VK) : VK := fun x H1 => ∃ (a : Addr) (xs : List V) (k : V → Int × Str), x = .ref a ∧ SqL K H1 a xs ∧ (∀ y ∈ xs, ∃ t, y = V.ref t) ∧ LamX.Tabs T H1 ∧
  (∀ y ∈ xs, ∀ H2, LamX.ExtN H1 H2 → ∀ Q' : VK, (∀ p, H2 p = none → Q' (.ref p) (upd H2 p (.tup [.int (k y).1, .str (k y).2]))) → tk (start N [y]) H2 Q') ∧
  ∀ ys a' H', SrtO.Srtd (fun x y => kLt (k x) (k y)) ys → ys.Perm xs → LamX.ExtN H1 H' → LamX.Tabs T H' → H' a' = none → Q (.ref a') (upd H' a' (.lst ys))
def tSortLam (K : PySem.W.Frag) (T : List (Addr × Str)) (N : List Str) (tk te : TE) : TE := fun σ H Q => te σ H (SortLamQ K T N tk Q)
/-- what is known between two keys -/
def KeyJ (X : Cx) (H1 : Hp) (s1 : Shared) (k : V → Int × Str) (xs : List V) (a kS : Addr) (ks : List Value) (s' : Shared) : Prop :=
  ∃ H' : Hp, s'.os = s1.os ∧ AllBare s'.gens ∧ Un (frs X.stack) [] H1 H' s1.heap s'.heap ∧ HOk X.prog X.w H' s'.heap ∧ (∀ b o, H1 b = some o → H' b = some o) ∧ H' a = none ∧ H' kS = none ∧ s1.heap.objs.size ≤ a ∧ s1.heap.objs.size ≤ kS ∧
    ks.length ≤ xs.length ∧ ∀ (i : Nat) (u : Value), ks[i]? = some u → ∃ p y, u = Value.ref p ∧ xs[i]? = some y ∧ H' p = some (.tup [.int (k y).1, .str (k y).2])
section
variable {X : Cx}
theorem zip_get {ks its : List Value} {p : Keyed} (h : p ∈ ks.zip its) : ∃ i : Nat, ks[i]? = some p.1 ∧ its[i]? = some p.2 := by
  obtain ⟨i, hi, e⟩ := List.mem_iff_getElem.mp h
  rw [List.length_zip] at hi
  refine ⟨i, ?_, ?_⟩
  · rw [List.getElem?_eq_getElem (by omega), ← e, List.getElem_zip]
  · rw [List.getElem?_eq_getElem (by omega), ← e, List.getElem_zip]
theorem pe_sortLam {T : List (Addr × Str)} {N ps : List Str} {c P : Addr} {k : Nat} {e : Expr} {te tk : TE} {params : Arguments} {body : Expr} {scope : Scope} {p lpos kpos pos : Pos}
    (hg : Gl X "sorted") (hm : X.mg "sorted" = none) (hr : Room (k + 3) X.A) (TB : LamX.TabB X.base X.mg c P) (hcode : X.env.code = .ref c) (hmT : (P, X.env.qual ++ "<lambda>") ∈ T) (hu : ∀ p ∈ T, p.1 = P → p.2 = X.env.qual ++ "<lambda>")
    (S : FnScope N ps scope) (hdef : defaultsOf params X.env = ([], [])) (hclo : ∀ cells, cloFrom cells scope.names [] = []) (h1 : ps.length = 1)
    (hbind : ∀ (q : Str) (pm cv ctv : Value) (us : List Value), us.length = 1 → bindArgs (PySem.W.kla_fn "<lambda>" q params body scope [] pm cv ctv) ⟨us, []⟩ = pure (ps.zip us))
    (ha : PA X [e] (tCons te tNil)) (hbody : ∀ (A : Around) (outer : List Env) (s : Shared) (H : Hp) (E : XK) (f c' : Addr), PE (cxOf CX0 X.prog X.w X.K X.mg X.base N (X.env.qual ++ "<lambda>") scope f (.ref c') A outer s H E) body tk)
    (hst : backTo pos (starEach [e] X.env) = (false, eval e X.env) :: backTo pos (starEach [] X.env) := by rfl) (hpl : (backTo pos (starEach [e] X.env)).any (·.1) = false := by rfl) :
    PE X (.Call (.Name "sorted" p) [e] [⟨some "key", .Lambda params body scope lpos, kpos⟩] pos) (tSortLam X.K T N tk te) := by
  refine ⟨fun pins s0 σ H0 Q I0 h => ?_⟩
  refine wpAny_Call_Name_kw (ld_blt I0 hg hm (show bootBuiltins "sorted" = some (.builtin "sorted") by decide +kernel) ?_ (by decide) (by decide))
  refine PyProof.Rows.callWith_kw (thn (ha.run pos pins s0 σ H0 (fun vs H1 => match vs with | [x] => SortLamQ X.K T N tk Q x H1 | _ => False) I0 h) fun us s h2 => ?kw) hst hpl rfl rfl
  case kw =>
    obtain ⟨vs, H, I, rv, q⟩ := h2
    obtain ⟨x, rfl⟩ : ∃ x, vs = [x] := by
      match vs, q with
      | [x], _ => exact ⟨x, rfl⟩
    obtain ⟨a0, xs, kk, rfl, hs, hrf, hT, hk, hq⟩ := (show SortLamQ X.K T N tk Q x H from q)
    obtain ⟨u0, rfl, ru⟩ := vals1 rv
    obtain rfl : u0 = Value.ref a0 := ru
    show wpAny _ _ (evalAll [(do let v ← eval (.Lambda params body scope lpos) X.env; standAt pos; pure v)]) _ _ s
    refine wpAny_evalAll_cons (wpAny_bind (LamX.lam_make2 I TB hcode hmT hu hT hdef (fun y hy e0 => ?_) fun f c' pm ctv H1 s1 I1 eN T1 hf hfn hfr hco => wpAny_bind (wpAny_standAt (wpAny_pure ?_))))
    · exact absurd e0 (S.nofree y hy)
    refine wpAny_evalAll_nil ?_
    show wpAny _ _ (call (.builtin "sorted") [.ref a0] [(Str.ofString "key", .ref f)]) _ _ s1
    rw [hclo] at hf
    have hs1 : SqL X.K H1 a0 xs := by
      rcases hs with (z | ⟨o, z⟩) | z
      · exact .inl (.inl (eN _ _ z (fun ps e => by cases e)))
      · exact .inl (.inr ⟨o, eN _ _ z (fun ps e => by cases e)⟩)
      · exact .inr z
    obtain ⟨its, rvs, hl, hz⟩ := I1.list hs1
    obtain ⟨e1, e2⟩ := refs_back rvs hrf
    have xlen : its.length = xs.length := rvs.length.symm
    have nofr : ∀ b, s1.heap.objs.size ≤ b → b ∉ frs X.stack := fun b hb z => by
      rcases List.mem_cons.mp (I1.stkSub _ z) with e | e
      · have h1 := I1.lt
        rw [← e] at h1
        exact Nat.lt_irrefl _ (Nat.lt_of_lt_of_le h1 hb)
      · exact I1.nofs hb e
    refine sorted_key (KeyJ X H1 s1 kk xs) hl.isList (by rw [xlen]; exact hz) ?start ?turn ?done
    case start =>
      intro a kS h e1' kp ha hkS hne ho1 ho2
      refine ⟨H1, rfl, I1.bare, Un.kept kp, I1.hok.kept kp, fun _ _ z => z, I1.hok.fresh ha, I1.hok.fresh hkS, ha, hkS, Nat.zero_le _, fun i u z => ?_⟩
      simp at z
    case turn =>
      rintro a kS e e1' ks u s' hu' ⟨H', os, bare, un, hok, ext, na, nk, ha, hkS, hle, hkeys⟩ hne ho1 ho2
      obtain ⟨y, hy, ry⟩ : ∃ y, xs[ks.length]? = some y ∧ RelV y u := by
        have hlt : ks.length < xs.length := by
          rw [← xlen]
          exact (List.getElem?_eq_some_iff.mp hu').1
        obtain ⟨u2, q1, q2⟩ := rvs.get (List.getElem?_eq_getElem hlt)
        rw [hu'] at q1
        cases q1
        exact ⟨_, List.getElem?_eq_getElem hlt, q2⟩
      have ym : y ∈ xs := List.mem_of_getElem? hy
      have I2 : Inv X pins σ H' s' := I1.call' (ch := []) os un hok bare fun b z => absurd z (by simp)
      have e0 := (I2.env0.in1).in1
      have of1 : s'.heap.get? f = _ := un.keep f _ hf hfn hfr (by simp)
      have eN2 : LamX.ExtN H H' := eN.trans fun b o z _ => ext b o z
      have rc : codeAny (model X.prog X.w) X.A.in1.in1 (.call (.ref f) ⟨[u], []⟩) (CR CX0 X.stack X.prog X.w H' s' (fun v H3 => ∃ p, v = V.ref p ∧ H' p = none ∧ H3 = upd H' p (.tup [.int (kk y).1, .str (kk y).2])) E0) s' :=
        lam_run (N := N) (ps := ps) (us := [u]) (vs := [y]) of1 S (hbind _ _ _ _ _ rfl) (hr.in1.in1 : Room (k + 1) X.A.in1.in1) e0 (ext _ _ hco) (.cons ry .nil) h1.symm (hbody _ _ _ _ _ _ _) (hk y ym H' eN2 _ fun p hp => ⟨p, rfl, hp, rfl⟩)
      refine wpAny_call (codeAny_mono rc fun r s2 hr2 => ?_)
      cases r with
      | error e => exact (show False from hr2).elim
      | ok fl =>
        cases fl with
        | next => exact False.elim hr2
        | brk => exact False.elim hr2
        | cont => exact False.elim hr2
        | ret v =>
          obtain ⟨v', H3, os2, bare2, un2, hok2, r2, p, rfl, np, rfl⟩ := hr2
          obtain rfl : v = Value.ref p := r2
          have kk1 := un2.keep kS _ ho1 nk (nofr _ hkS) (by simp)
          have kk2 := un2.keep a _ ho2 na (nofr _ ha) (by simp)
          have n1 := un2.free kS _ ho1 nk (by simp)
          have n2 := un2.free a _ ho2 na (by simp)
          have ext3 : ∀ b o, H' b = some o → upd H' p (.tup [.int (kk y).1, .str (kk y).2]) b = some o := fun b o z => by
            rw [upd_ne (ne_of_none z np)]
            exact z
          refine ⟨kk1, kk2, fun h3 k3 => ⟨upd H' p (.tup [.int (kk y).1, .str (kk y).2]), os2.trans os, bare2, un_but (un.trans un2) fun b o hb q => k3 b o (fun z => by rw [z] at hb; exact Nat.lt_irrefl _ (Nat.lt_of_lt_of_le hb hkS)) q, hok_but hok2 fun b o hb q => k3 b o (fun z => hb (by rw [z]; exact n1)) q,
            fun b o z => ext3 b o (ext b o z), n2, n1, ha, hkS, ?_, fun i w hi => ?_⟩⟩
          · rw [List.length_append, List.length_singleton]
            exact (List.getElem?_eq_some_iff.mp hy).1
          · by_cases hlt : i < ks.length
            · rw [List.getElem?_append_left hlt] at hi
              obtain ⟨p', y', q1, q2, q3⟩ := hkeys i w hi
              exact ⟨p', y', q1, q2, ext3 _ _ q3⟩
            · rw [List.getElem?_append_right (by omega)] at hi
              have ei : i - ks.length = 0 := by
                have := (List.getElem?_eq_some_iff.mp hi).1
                simp at this
                omega
              rw [ei] at hi
              have : w = Value.ref p := by simpa using hi.symm
              subst this
              have e3 : i = ks.length := by omega
              rw [e3]
              exact ⟨p, y, rfl, hy, upd_same⟩
    case done =>
      rintro a kS e e1' ks s' ⟨H', os, bare, un, hok, ext, na, nk, ha, hkS, hle, hkeys⟩ hlen hne ho1 ho2
      have at_ : ∀ (i : Nat) (v : Value), ks[i]? = some v → ∃ y, xs[i]? = some y ∧ kvOf H' v = kk y ∧ IsT2 s'.heap v (kvOf H' v) [] := fun i v hi => by
        obtain ⟨p, y, rfl, q1, q2⟩ := hkeys i v hi
        have e3 := kvOf_at q2
        refine ⟨y, q1, e3, ?_⟩
        rw [e3]
        obtain ⟨_, its2, r2, o, ho, hc, n, hd⟩ := hok _ _ q2
        obtain ⟨u1, u2, rfl, ri, rj⟩ := vals2 r2
        obtain ⟨t1, rfl⟩ := ri
        obtain ⟨t2, rfl⟩ := rj
        exact ⟨p, o, t1, t2, n, rfl, ho, hc, hd⟩
      have tup : ∀ v ∈ ks, IsT2 s'.heap v (kvOf H' v) [] := fun v hv => by
        obtain ⟨i, hi⟩ := List.mem_iff_getElem?.mp hv
        obtain ⟨y, _, _, q⟩ := at_ i v hi
        exact q
      refine ⟨SrtO.lt2 fun v u => kLt (kvOf H' v) (kvOf H' u), SrtO.swo2 (kLt_swo fun v => kvOf H' v), fun h2 => ⟨tuples' true, fun Q2 E2 hq2 => ?_, t2_cmp (rest := fun _ => []) tup (fun _ _ _ z => absurd z (by simp)) fun _ _ _ _ _ => rfl⟩, fun ps h' c hs hb kp ho => ?_⟩
      · obtain ⟨fs, f1, f2, f3⟩ := t2_firsts (rest := fun _ => []) tup
        refine PySem.W.kat_kind (T := .type "int") f1 (by omega) (fun f hm => ?_) (by rfl) ?_
        · obtain ⟨x, t, rfl⟩ := f3 f hm
          exact PySem.W.Looks.now
        · have e : (Value.type "int" != Value.type "tuple") = true := by first | decide +kernel | rfl | decide
          rw [e]
          exact hq2
      · have pm : ∀ p ∈ ps, kvOf H' p.1 = kk (backV p.2) ∧ p.2 ∈ its := fun p hp => by
          obtain ⟨i, q1, q2⟩ := zip_get (hb.perm.mem_iff.mp hp)
          obtain ⟨y, q3, q4, _⟩ := at_ i _ q1
          rw [e1, List.getElem?_map, q2] at q3
          have q5 : backV p.2 = y := by simpa using q3
          rw [q5]
          exact ⟨q4, List.mem_of_getElem? q2⟩
        have outm : ∀ u ∈ ps.map (·.2), ∃ a, u = Value.ref a := fun u hu => by
          obtain ⟨p, hp, rfl⟩ := List.mem_map.mp hu
          exact e2 _ (pm p hp).2
        have perm : (ps.map (·.2)).Perm its := by
          have z := hb.perm.map (fun p : Keyed => p.2)
          rwa [List.map_snd_zip (by omega)] at z
        have permV : ((ps.map (·.2)).map backV).Perm xs := by
          rw [e1]
          exact perm.map backV
        have srt : SrtO.Srtd (fun x y => kLt (kk x) (kk y)) ((ps.map (·.2)).map backV) := by
          rw [List.map_map]
          refine List.pairwise_map.mpr ?_
          refine List.Pairwise.imp_of_mem (fun {p q} hp hq z => ?_) hs
          have z' : kLt (kvOf H' q.1) (kvOf H' p.1) = false := z
          rw [(pm p hp).1, (pm q hq).1] at z'
          exact z'
        have olen : ((ps.map (·.2)).map backV).length ≤ sizeLine := by
          rw [permV.length_eq]
          exact hz
        have kp' : ∀ b o, H' b ≠ none → s'.heap.get? b = some o → h'.get? b = some o := fun b o hb q => kp b o (fun z => hb (by rw [z]; exact na)) (fun z => hb (by rw [z]; exact nk)) q
        refine ⟨.ref a, upd H' a (.lst ((ps.map (·.2)).map backV)), ?_, rfl, hq _ a H' srt permV (eN.trans fun b o z _ => ext b o z) (T1.ext ext) na⟩
        refine I1.call' (ch := []) (s' := { s' with heap := h' }) os (un_late (un_but un fun b o hb q => kp b o (fun z => by rw [z] at hb; exact Nat.lt_irrefl _ (Nat.lt_of_lt_of_le hb ha)) (fun z => by rw [z] at hb; exact Nat.lt_irrefl _ (Nat.lt_of_lt_of_le hb hkS)) q) ha na)
          (hok_late (hok_but hok kp') na ⟨olen, _, c, vals_back outm, ho⟩) bare fun b z => absurd z (by simp)
end
end Sk
namespace Sk
open PySem PySem.Spec PyProof.Rows L2
theorem ne_of_none' {H : Hp} {a b : Addr} {o : HO} (h : upd H b o a = none) : a ≠ b := fun z => by
  rw [z, upd_same] at h
  cases h
/-! ### own functions by name -/
structure Fn (P : Program) (w : World) (K : PySem.W.Frag) (mg : Str → Option Value) (base : Heap) (x : Str) (k : Nat) (ps : List Str) (sp : Sp) : Prop where
  ex : ∃ (f : Addr) (fd : FuncData), FnOk P w K mg base CX0 k f fd ps sp ∧ mg x = some (.ref f) ∧ PySem.W.keepIn K (.ref f) = true ∧ Binds K fd ps []
/-- with keywords alone, n values written, the keywords ks -/
structure FnK (P : Program) (w : World) (K : PySem.W.Frag) (mg : Str → Option Value) (base : Heap) (x : Str) (k : Nat) (ps : List Str) (sp : Sp) (n : Nat) (ks : List Str) (gV : List V → List V → List V) : Prop where
  ex : ∃ (f : Addr) (fd : FuncData) (g : List Value → List Value → List Value), FnOk P w K mg base CX0 k f fd ps sp ∧ mg x = some (.ref f) ∧ PySem.W.keepIn K (.ref f) = true ∧ KBn K fd ps n ks g gV
section
variable {X : Cx} {x : Str} {k n : Nat} {ps ks : List Str} {sp : Sp} {gV : List V → List V → List V} {e : Expr} {es : List Expr} {t tk : TA} {kws : List Keyword} {p pos : Pos}
theorem pe_fn (F : Fn X.prog X.w X.K X.mg X.base x k ps sp) (hr : Room k X.A) (ha : PA X (e :: es) t) (hg : Gl X x := by rfl) (hdb : (x == ("__debug__" : Str)) = false := by decide)
    (he : starEach (e :: es) X.env = (false, eval e X.env) :: starEach es X.env := by rfl) (hpl : (backTo pos (starEach es X.env)).any (·.1) = false := by rfl) : PE X (.Call (.Name x p) (e :: es) [] pos) (tCall sp [] E0 t) := by
  obtain ⟨f, fd, F1, hm, hk, hb⟩ := F.ex
  exact pe_call F1 hr hg hm hk hb .nil pass0 ha hdb he hpl
theorem pe_fnK (F : FnK X.prog X.w X.K X.mg X.base x k ps sp n ks gV) (hr : Room k X.A) (ha : PA X (e :: es) t) (hkw : PK X kws tk) (hg : Gl X x := by rfl) (hdb : (x == ("__debug__" : Str)) = false := by decide)
    (hall : (backToKw pos (keywordEach kws X.env)).all (·.1.isSome) = true := by rfl) (hks : (backToKw pos (keywordEach kws X.env)).filterMap (·.1) = ks := by rfl)
    (he : starEach (e :: es) X.env = (false, eval e X.env) :: starEach es X.env := by rfl)
    (hpl : ((backTo pos (starEach (e :: es) X.env)).any (·.1) || (backToKw pos (keywordEach kws X.env)).any (·.1.isNone)) = false := by rfl) : PE X (.Call (.Name x p) (e :: es) kws pos) (tCallN n ks.length sp gV E0 t tk) := by
  obtain ⟨f, fd, g, F1, hm, hk, hb⟩ := F.ex
  exact pe_callN F1 hr hg hm hk hb pass0 ha hkw hall hks hdb he hpl
theorem pe_fnK0 (F : FnK X.prog X.w X.K X.mg X.base x k ps sp 0 ks gV) (hr : Room k X.A) (hkw : PK X kws tk) (hg : Gl X x := by rfl) (hdb : (x == ("__debug__" : Str)) = false := by decide)
    (hall : (backToKw pos (keywordEach kws X.env)).all (·.1.isSome) = true := by rfl) (hks : (backToKw pos (keywordEach kws X.env)).filterMap (·.1) = ks := by rfl)
    (hpl : ((backTo pos (starEach [] X.env)).any (·.1) || (backToKw pos (keywordEach kws X.env)).any (·.1.isNone)) = false := by rfl) : PE X (.Call (.Name x p) [] kws pos) (tCallN 0 ks.length sp gV E0 tNil tk) := by
  obtain ⟨f, fd, g, F1, hm, hk, hb⟩ := F.ex
  refine ⟨fun pins s σ H Q I h => ?_⟩
  refine wpAny_Call_Name_kw (ld_glob I hg hm ?_ hdb)
  refine PySem.W.callWith_KW0 (h₀ := X.base) I.ok.mod.kin hk hall ?_ hpl
  refine thn (hkw.run pos pins s σ H _ I h) fun ws s2 ⟨zs, H2, I2, rz, l1, l2, q2⟩ => ⟨I2.kIn, ?_⟩
  rw [hks]
  exact run_fnN (us := []) (vs := []) F1 hr hb pass0 I2 .nil rz rfl l2 q2
/-- constants of the module -/
theorem pe_gs {z : Str} (h : ∃ t, X.mg x = some (.str z t)) (hg : Gl X x := by rfl) (hd : (x == ("__debug__" : Str)) = false := by decide) : PE X (.Name x pos) (tC (.str z)) := by
  obtain ⟨t, e⟩ := h
  exact pe_glob hg e ⟨t, rfl⟩ hd
theorem pe_gi {z : Int} (h : ∃ t, X.mg x = some (.int z t)) (hg : Gl X x := by rfl) (hd : (x == ("__debug__" : Str)) = false := by decide) : PE X (.Name x pos) (tC (.int z)) := by
  obtain ⟨t, e⟩ := h
  exact pe_glob hg e ⟨t, rfl⟩ hd
end
/-! ### heaps -/
/-- a heap grows: all but tables stand, the tables T stay tables -/
structure Gr (T : List (Addr × Str)) (H H' : Hp) : Prop where
  ext : LamX.ExtN H H'
  tab : LamX.Tabs T H → LamX.Tabs T H'
theorem Gr.refl {T : List (Addr × Str)} (H : Hp) : Gr T H H := ⟨LamX.ExtN.refl H, id⟩
theorem Gr.trans {T : List (Addr × Str)} {H H1 H2 : Hp} (a : Gr T H H1) (b : Gr T H1 H2) : Gr T H H2 := ⟨a.ext.trans b.ext, fun t => b.tab (a.tab t)⟩
theorem Gr.same {T : List (Addr × Str)} {H H' : Hp} (s : Same H H') : Gr T H H' := ⟨LamX.ExtN.of s, fun t => t.ext s⟩
theorem Same.upd {H : Hp} {p : Addr} {o : HO} (h : H p = none) : Same H (upd H p o) := fun b u e => by
  rw [upd_ne (ne_of_none e h)]
  exact e
theorem Gr.new {T : List (Addr × Str)} {H : Hp} {p : Addr} {o : HO} (h : H p = none) : Gr T H (upd H p o) := Gr.same (Same.upd h)
/-- neither a table nor a code object -/
def NoTab (o : HO) : Prop := (∀ ps, o ≠ .tbl ps) ∧ ∀ f, o ≠ .ext f
theorem NoTab.lst {xs : List V} : NoTab (.lst xs) := ⟨(fun _ e => by cases e), (fun _ e => by cases e)⟩
theorem NoTab.tup {xs : List V} : NoTab (.tup xs) := ⟨(fun _ e => by cases e), (fun _ e => by cases e)⟩
theorem NoTab.dK {xs : List (Key × V)} : NoTab (.dK xs) := ⟨(fun _ e => by cases e), (fun _ e => by cases e)⟩
theorem NoTab.ins {C dx : Addr} {fs : List (Str × V)} : NoTab (.ins C dx fs) := ⟨(fun _ e => by cases e), (fun _ e => by cases e)⟩
theorem Gr.at {T : List (Addr × Str)} {H H' : Hp} {a : Addr} {o : HO} (g : Gr T H H') (h : H a = some o) (n : NoTab o) : H' a = some o := g.ext a o h n.1
theorem Gr.free {T : List (Addr × Str)} {H H' : Hp} {a : Addr} (g : Gr T H H') (h : H' a = none) (n : ∀ ps, H a ≠ some (.tbl ps)) : H a = none := by
  cases q : H a with
  | none => rfl
  | some o =>
    have := g.ext a o q (fun ps e => n ps (by rw [q, e]))
    rw [h] at this
    cases this
theorem Gr.ext_seq {T : List (Addr × Str)} {K : PySem.W.Frag} {H H' : Hp} {a : Addr} {xs : List V} (g : Gr T H H') (h : SqL K H a xs) : SqL K H' a xs := by
  rcases h with (z | ⟨o, z⟩) | z
  · exact .inl (.inl (g.ext _ _ z (fun ps e => by cases e)))
  · exact .inl (.inr ⟨o, g.ext _ _ z (fun ps e => by cases e)⟩)
  · exact .inr z
/-- nothing but a table stands there -/
def Nw (H : Hp) (a : Addr) : Prop := ∀ u, H a = some u → ∃ ps, u = .tbl ps
theorem Nw.of {H : Hp} {a : Addr} (h : H a = none) : Nw H a := fun u e => by
  rw [h] at e
  cases e
theorem Gr.nw {T : List (Addr × Str)} {H H' : Hp} {a : Addr} (g : Gr T H H') (h : Nw H' a) : Nw H a := fun u e => by
  cases u with
  | tbl ps => exact ⟨ps, rfl⟩
  | _ =>
    obtain ⟨ps, z⟩ := h _ (g.ext _ _ e (fun ps z => by cases z))
    cases z
/-- a cell that H does not know is written -/
theorem Gr.mut {T : List (Addr × Str)} {H H' : Hp} {a : Addr} {o0 o : HO} (g : Gr T H H') (h : Nw H a) (h0 : H' a = some o0) (nt : NoTab o0) : Gr T H (upd H' a o) := by
  refine ⟨fun b u e n => ?_, fun t p hp => ?_⟩
  · rw [upd_ne (fun z => by
      rw [z] at e
      obtain ⟨ps, q⟩ := h _ e
      exact n ps q)]
    exact g.ext b u e n
  · obtain ⟨ps, b1, b2, b3⟩ := g.tab t p hp
    have na : p.1 ≠ a := fun z => by
      rw [z, h0] at b1
      cases b1
      exact nt.1 ps rfl
    refine ⟨ps, by rw [upd_ne na]; exact b1, b2, fun po cv hc => ?_⟩
    obtain ⟨c', e1, e2⟩ := b3 po cv hc
    refine ⟨c', e1, ?_⟩
    rw [upd_ne (fun z => by
      rw [z, h0] at e2
      cases e2
      exact nt.2 _ rfl)]
    exact e2
/-- a frozen part of the heap -/
structure Fz (G H : Hp) : Prop where
  sub : Same G H
  nt : ∀ a o, G a = some o → NoTab o
theorem Fz.emp {H : Hp} : Fz (fun _ => none) H := ⟨(fun _ _ e => by cases e), (fun _ _ e => by cases e)⟩
theorem Fz.gr {T : List (Addr × Str)} {G H H' : Hp} (f : Fz G H) (g : Gr T H H') : Fz G H' := ⟨fun b o e => g.ext b o (f.sub b o e) (f.nt b o e).1, f.nt⟩
theorem Fz.free {G H : Hp} {a : Addr} (f : Fz G H) (h : H a = none) : G a = none := f.sub.free h
theorem Fz.put {G H : Hp} {a : Addr} {o : HO} (f : Fz G H) (h : G a = none) : Fz G (upd H a o) := ⟨fun b u e => by
  rw [upd_ne (ne_of_none e h)]
  exact f.sub b u e, f.nt⟩
/-- what stands at a is frozen -/
theorem Fz.add {G H : Hp} {a : Addr} {o : HO} (f : Fz G H) (h : H a = some o) (n : NoTab o) : Fz (upd G a o) H := ⟨fun b u e => by
  by_cases hb : b = a
  · rw [hb] at e ⊢
    rw [upd_same] at e
    cases e
    exact h
  · rw [upd_ne hb] at e
    exact f.sub b u e, fun b u e => by
  by_cases hb : b = a
  · rw [hb, upd_same] at e
    cases e
    exact n
  · rw [upd_ne hb] at e
    exact f.nt b u e⟩
theorem Tabs.upd {T : List (Addr × Str)} {H : Hp} {d : Addr} {u o : HO} (t : LamX.Tabs T H) (h : H d = some u) (nt : NoTab u) : LamX.Tabs T (upd H d o) := fun p hp => by
  obtain ⟨ps, b1, b2, b3⟩ := t p hp
  have na : p.1 ≠ d := fun z => by
    rw [z, h] at b1
    cases b1
    exact nt.1 ps rfl
  refine ⟨ps, by rw [upd_ne na]; exact b1, b2, fun po cv hc => ?_⟩
  obtain ⟨c', e1, e2⟩ := b3 po cv hc
  refine ⟨c', e1, ?_⟩
  rw [upd_ne (fun z => by
    rw [z, h] at e2
    cases e2
    exact nt.2 _ rfl)]
  exact e2
theorem NoTab.frz {o : Obj} {u : HO} : NoTab (.frz o u) := ⟨(fun _ e => by cases e), (fun _ e => by cases e)⟩
/-- a cell was locked meanwhile -/
theorem Gr.unlock {T : List (Addr × Str)} {H H' : Hp} {d : Addr} {od : Obj} {u : HO} (hd : H d = some u) (nt : NoTab u) (g : Gr T (L2.upd H d (.frz od u)) H') (hd' : H' d = some (.frz od u)) : Gr T H (L2.upd H' d u) := by
  refine ⟨fun b o e n => ?_, fun t => Tabs.upd (g.tab (Tabs.upd t hd nt)) hd' .frz⟩
  by_cases hb : b = d
  · rw [hb, hd] at e
    cases e
    rw [hb, upd_same]
  · rw [upd_ne hb]
    exact g.ext b o (by rw [upd_ne hb]; exact e) n
/-! ### the source of draws -/
/-- the source at p, its digits at q; drawn at most n times from the mixed sequence -/
def SrcAt (p q : Addr) (n : Nat) (H : Hp) : Prop := ∃ (ds : List Int) (x m c : Int), H p = some (.lst [.ref q, .int x, .int m, .int c]) ∧ H q = some (.lst (ds.map V.int)) ∧ (∀ d ∈ ds, 0 ≤ d) ∧ 0 ≤ x ∧ 0 ≤ m ∧ m < 2305843009213693951 ∧ 0 ≤ c ∧ c ≤ n
/-- the source, the cells L that may change, the frozen part G -/
structure Hs (T : List (Addr × Str)) (p : Addr) (n : Nat) (L : List (Addr × HO)) (G H : Hp) : Prop where
  src : ∃ q, SrcAt p q n H ∧ G q = none ∧ q ≠ p ∧ ∀ x ∈ L, x.1 ≠ q
  fz : Fz G H
  gp : G p = none
  cel : ∀ x ∈ L, H x.1 = some x.2 ∧ G x.1 = none ∧ x.1 ≠ p ∧ NoTab x.2
  nod : (L.map (·.1)).Nodup
  tab : LamX.Tabs T H
section
variable {T : List (Addr × Str)} {p : Addr} {n : Nat} {L : List (Addr × HO)} {G H H' : Hp}
theorem SrcAt.mono {q : Addr} {m : Nat} (s : SrcAt p q n H) (h : n ≤ m) : SrcAt p q m H := by
  obtain ⟨ds, x, mm, c, h1, h2, h3, h4, h5, h6, h7, h8⟩ := s
  exact ⟨ds, x, mm, c, h1, h2, h3, h4, h5, h6, h7, by omega⟩
theorem Hs.mono {m : Nat} (s : Hs T p n L G H) (h : n ≤ m) : Hs T p m L G H := by
  obtain ⟨⟨q, a, b⟩, c, d, e, f, g⟩ := s
  exact ⟨⟨q, a.mono h, b⟩, c, d, e, f, g⟩
/-- all that stood stands -/
theorem Hs.gr (s : Hs T p n L G H) (g : Gr T H H') : Hs T p n L G H' := by
  obtain ⟨⟨q, ⟨ds, x, m, c, h1, h2, h3⟩, b⟩, fz, gp, cel, nod, tab⟩ := s
  exact ⟨⟨q, ⟨ds, x, m, c, g.at h1 .lst, g.at h2 .lst, h3⟩, b⟩, fz.gr g, gp, fun x hx => ⟨g.at (cel x hx).1 (cel x hx).2.2.2, (cel x hx).2⟩, nod, g.tab tab⟩
/-- a new cell -/
theorem Hs.new {a : Addr} {o : HO} (s : Hs T p n L G H) (h : H a = none) (nt : NoTab o) : Hs T p n ((a, o) :: L) G (upd H a o) := by
  have s2 := s.gr (Gr.new (o := o) h)
  obtain ⟨⟨q, a1, a2, a3, a4⟩, fz, gp, cel, nod, tab⟩ := s
  obtain ⟨ds, x, m, c, h1, h2, h3⟩ := a1
  refine ⟨⟨q, ⟨ds, x, m, c, ?_, ?_, h3⟩, a2, a3, fun y hy => ?_⟩, s2.fz, gp, fun y hy => ?_, ?_, s2.tab⟩
  · rw [upd_ne (ne_of_none h1 h)]
    exact h1
  · rw [upd_ne (ne_of_none h2 h)]
    exact h2
  · rcases List.mem_cons.mp hy with rfl | hy
    · exact (ne_of_none h2 h).symm
    · exact a4 y hy
  · rcases List.mem_cons.mp hy with rfl | hy
    · exact ⟨upd_same, fz.free h, (ne_of_none h1 h).symm, nt⟩
    · exact s2.cel y hy
  · rw [List.map_cons, List.nodup_cons]
    refine ⟨fun hm => ?_, nod⟩
    obtain ⟨y, hy, e⟩ := List.mem_map.mp hm
    have := (cel y hy).1
    rw [e, h] at this
    cases this
/-- what stands at the i-th cell -/
theorem Hs.get {i : Nat} {a : Addr} {o : HO} (s : Hs T p n L G H) (h : L[i]? = some (a, o)) : H a = some o := (s.cel (a, o) (List.mem_of_getElem? h)).1
/-- the i-th cell is written -/
theorem Hs.put {i : Nat} {a : Addr} {o o' : HO} (s : Hs T p n L G H) (h : L[i]? = some (a, o)) (nt : NoTab o') : Hs T p n (L.set i (a, o')) G (upd H a o') := by
  have hm := List.mem_of_getElem? h
  obtain ⟨⟨q, ⟨ds, x, m, c, h1, h2, h3⟩, a2, a3, a4⟩, fz, gp, cel, nod, tab⟩ := s
  obtain ⟨c1, c2, c3, c4⟩ := cel _ hm
  have hi : i < L.length := (List.getElem?_eq_some_iff.mp h).1
  have ei : L[i] = (a, o) := (List.getElem?_eq_some_iff.mp h).2
  have sub : ∀ y ∈ L.set i (a, o'), y = (a, o') ∨ (y ∈ L ∧ y.1 ≠ a) := fun y hy => by
    obtain ⟨j, hj, ej⟩ := List.mem_iff_getElem.mp hy
    by_cases hij : i = j
    · subst hij
      rw [List.getElem_set_self] at ej
      exact .inl ej.symm
    · rw [List.getElem_set_ne hij] at ej
      refine .inr ⟨by rw [← ej]; exact List.getElem_mem _, fun z => hij ?_⟩
      rw [List.length_set] at hj
      have q1 : (L.map (·.1))[i]'(by rw [List.length_map]; exact hi) = (L.map (·.1))[j]'(by rw [List.length_map]; exact hj) := by
        rw [List.getElem_map, List.getElem_map, ei, ej, z]
      exact (List.getElem_inj nod).mp q1
  refine ⟨⟨q, ⟨ds, x, m, c, ?_, ?_, h3⟩, a2, a3, fun y hy => ?_⟩, fz.put c2, gp, fun y hy => ?_, ?_, fun t ht => ?_⟩
  · rw [upd_ne (Ne.symm c3)]
    exact h1
  · rw [upd_ne (Ne.symm (show a ≠ q from a4 _ hm))]
    exact h2
  · rcases sub y hy with rfl | ⟨hy, _⟩
    · exact (a4 _ hm : a ≠ q)
    · exact a4 y hy
  · rcases sub y hy with rfl | ⟨hy, z⟩
    · exact ⟨upd_same, c2, c3, nt⟩
    · rw [upd_ne z]
      exact cel y hy
  · rw [List.map_set]
    have : (L.map (·.1)).set i a = L.map (·.1) := by
      have e2 : (L.map (·.1))[i]'(by rw [List.length_map]; exact hi) = a := by rw [List.getElem_map, ei]
      conv => rhs; rw [← List.set_getElem_self (as := L.map (·.1)) (i := i) (by rw [List.length_map]; exact hi)]
      rw [e2]
    show ((L.map (·.1)).set i a).Nodup
    rw [this]
    exact nod
  · obtain ⟨ps, b1, b2, b3⟩ := tab t ht
    have na : t.1 ≠ a := fun z => by
      rw [z, c1] at b1
      cases b1
      exact c4.1 ps rfl
    refine ⟨ps, by rw [upd_ne na]; exact b1, b2, fun po cv hc => ?_⟩
    obtain ⟨c', e1, e2⟩ := b3 po cv hc
    refine ⟨c', e1, ?_⟩
    by_cases hca : c' = a
    · exfalso
      rw [hca, c1] at e2
      cases e2
      exact c4.2 _ rfl
    · rw [upd_ne hca]
      exact e2
/-- fewer cells -/
theorem Hs.sub {L' : List (Addr × HO)} (s : Hs T p n L G H) (h : L'.Sublist L) : Hs T p n L' G H := by
  obtain ⟨⟨q, a, b, c, d⟩, fz, gp, cel, nod, tab⟩ := s
  exact ⟨⟨q, a, b, c, fun x hx => d x (h.subset hx)⟩, fz, gp, fun x hx => cel x (h.subset hx), nod.sublist (h.map _), tab⟩
/-- the first cell is frozen -/
theorem Hs.freeze {a : Addr} {o : HO} (s : Hs T p n ((a, o) :: L) G H) : Hs T p n L (upd G a o) H := by
  obtain ⟨⟨q, h1, h2, h3, h4⟩, fz, gp, cel, nod, tab⟩ := s
  obtain ⟨c1, c2, c3, c4⟩ := cel _ (List.mem_cons_self ..)
  rw [List.map_cons, List.nodup_cons] at nod
  refine ⟨⟨q, h1, ?_, h3, fun x hx => h4 x (List.mem_cons_of_mem _ hx)⟩, fz.add c1 c4, ?_, fun x hx => ?_, nod.2, tab⟩
  · rw [upd_ne (Ne.symm (show a ≠ q from h4 _ (List.mem_cons_self ..)))]
    exact h2
  · rw [upd_ne (Ne.symm c3)]
    exact gp
  · obtain ⟨d1, d2, d3, d4⟩ := cel x (List.mem_cons_of_mem _ hx)
    refine ⟨d1, ?_, d3, d4⟩
    rw [upd_ne (fun z => nod.1 (List.mem_map.mpr ⟨x, hx, z⟩))]
    exact d2
/-- the heap grew, and at a new place stands o -/
theorem Hs.grow {a : Addr} {o : HO} (s : Hs T p n L G H) (g : Gr T H H') (h : Nw H a) (e : H' a = some o) (nt : NoTab o) : Hs T p n ((a, o) :: L) G H' := by
  have s2 := s.gr g
  have no : ∀ u, H a = some u → ¬ NoTab u := fun u hu n2 => by
    obtain ⟨ps, z⟩ := h u hu
    exact n2.1 ps z
  obtain ⟨⟨q, ⟨ds, x, m, c, h1, h2, _⟩, a2, a3, a4⟩, fz, gp, cel, nod, tab⟩ := s
  obtain ⟨⟨q', b1, b2, b3, b4⟩, fz', _, cel', _, tab'⟩ := s2
  refine ⟨⟨q', b1, b2, b3, fun y hy => ?_⟩, fz', gp, fun y hy => ?_, ?_, tab'⟩
  · rcases List.mem_cons.mp hy with rfl | hy
    · intro z
      obtain ⟨ds', x', m', c', k1, k2, _⟩ := b1
      have e1 := g.at h1 .lst
      rw [k1] at e1
      cases e1
      exact no _ (by rw [show a = q from z]; exact h2) .lst
    · exact b4 y hy
  · rcases List.mem_cons.mp hy with rfl | hy
    · refine ⟨e, ?_, fun z => ?_, nt⟩
      · cases q0 : G a with
        | none => rfl
        | some u => exact absurd (fz.nt a u q0) (no u (fz.sub a u q0))
      · exact no _ (by rw [show a = p from z]; exact h1) .lst
    · exact cel' y hy
  · rw [List.map_cons, List.nodup_cons]
    refine ⟨fun hm => ?_, nod⟩
    obtain ⟨y, hy, e2⟩ := List.mem_map.mp hm
    obtain ⟨c1, _, _, c4⟩ := cel y hy
    rw [e2] at c1
    exact no _ c1 c4
/-- the first cell is left alone -/
theorem Hs.drop1 {c : Addr × HO} (s : Hs T p n (c :: L) G H) : Hs T p n L G H := s.sub (.cons _ (.refl _))
/-- the second cell is left alone -/
theorem Hs.drop2 {c d : Addr × HO} (s : Hs T p n (c :: d :: L) G H) : Hs T p n (c :: L) G H := s.sub (.cons₂ _ (.cons _ (.refl _)))
/-- the second cell first -/
theorem Hs.swap {c d : Addr × HO} (s : Hs T p n (c :: d :: L) G H) : Hs T p n (d :: c :: L) G H := by
  obtain ⟨⟨q, b1, b2, b3, b4⟩, fz, gp, cel, nod, tab⟩ := s
  have pm : (d :: c :: L).Perm (c :: d :: L) := .swap ..
  exact ⟨⟨q, b1, b2, b3, fun x hx => b4 x (pm.mem_iff.mp hx)⟩, fz, gp, fun x hx => cel x (pm.mem_iff.mp hx), (pm.map _).nodup_iff.mpr nod, tab⟩
/-- what is frozen stands -/
theorem Hs.fzat {a : Addr} {o : HO} (s : Hs T p n L G H) (h : G a = some o) : H a = some o := s.fz.sub _ _ h
theorem Hs.gfree {a : Addr} (s : Hs T p n L G H) (h : H a = none) : G a = none := s.fz.free h
theorem Hs.cfree {c : Addr × HO} (s : Hs T p n (c :: L) G H) : G c.1 = none := (s.cel c (List.mem_cons_self ..)).2.1
/-- all tuples are frozen -/
def fzT (G H : Hp) : Hp := fun b => match G b with
  | some o => some o
  | none => match H b with
    | some (.tup zs) => some (.tup zs)
    | _ => none
theorem fzT_old {b : Addr} {o : HO} (h : G b = some o) : fzT G H b = some o := by
  unfold fzT
  rw [h]
theorem fzT_tup {b : Addr} {zs : List V} (f : Fz G H) (h : H b = some (.tup zs)) : fzT G H b = some (.tup zs) := by
  unfold fzT
  cases q : G b with
  | some o =>
    have := f.sub b o q
    rw [h] at this
    cases this
    rfl
  | none => simp only [h]
theorem fzT_cases {b : Addr} {o : HO} (h : fzT G H b = some o) : G b = some o ∨ (H b = some o ∧ ∃ zs, o = .tup zs) := by
  unfold fzT at h
  cases q : G b with
  | some u =>
    rw [q] at h
    exact .inl h
  | none =>
    rw [q] at h
    cases q2 : H b with
    | none => rw [q2] at h; cases h
    | some u =>
      rw [q2] at h
      cases u with
      | tup zs =>
        cases h
        exact .inr ⟨rfl, zs, rfl⟩
      | _ => cases h
theorem fzT_none {b : Addr} (h : G b = none) (n : ∀ zs, H b ≠ some (.tup zs)) : fzT G H b = none := by
  cases q : fzT G H b with
  | none => rfl
  | some o =>
    rcases fzT_cases q with z | ⟨z, zs, e⟩
    · rw [h] at z
      cases z
    · exact absurd (e ▸ z) (n zs)
theorem Hs.fzTup (s : Hs T p n L G H) (hL : ∀ x ∈ L, ∀ zs, x.2 ≠ .tup zs) : Hs T p n L (fzT G H) H := by
  obtain ⟨⟨q, a, b1, b2, b3⟩, fz, gp, cel, nod, tab⟩ := s
  obtain ⟨ds, x, m, c, h1, h2, h3⟩ := id a
  refine ⟨⟨q, a, fzT_none b1 (fun zs z => by rw [h2] at z; cases z), b2, b3⟩, ⟨fun b o e => ?_, fun b o e => ?_⟩, fzT_none gp (fun zs z => by rw [h1] at z; cases z), fun y hy => ?_, nod, tab⟩
  · rcases fzT_cases e with z | ⟨z, _⟩
    · exact fz.sub b o z
    · exact z
  · rcases fzT_cases e with z | ⟨_, zs, z⟩
    · exact fz.nt b o z
    · rw [z]
      exact .tup
  · obtain ⟨c1, c2, c3⟩ := cel y hy
    exact ⟨c1, fzT_none c2 (fun zs z => hL y hy zs (Option.some.inj (c1.symm.trans z))), c3⟩
/-- less is frozen -/
theorem Hs.less {G0 : Hp} (s : Hs T p n L G H) (h : Same G0 G) : Hs T p n L G0 H := by
  obtain ⟨⟨q, a, b1, b2, b3⟩, fz, gp, cel, nod, tab⟩ := s
  exact ⟨⟨q, a, h.free b1, b2, b3⟩, ⟨fun b o e => fz.sub b o (h b o e), fun b o e => fz.nt b o (h b o e)⟩, h.free gp, fun y hy => ⟨(cel y hy).1, h.free (cel y hy).2.1, (cel y hy).2.2⟩, nod, tab⟩
/-- a frozen cell is written -/
theorem Hs.fput {l : Addr} {o o' : HO} (s : Hs T p n L G H) (h : G l = some o) (nt : NoTab o') : Hs T p n L (upd G l o') (upd H l o') := by
  obtain ⟨⟨q, ⟨ds, x, m, c, h1, h2, h3⟩, b1, b2, b3⟩, fz, gp, cel, nod, tab⟩ := s
  have lp : p ≠ l := fun z => by rw [z, h] at gp; cases gp
  have lq : q ≠ l := fun z => by rw [z, h] at b1; cases b1
  refine ⟨⟨q, ⟨ds, x, m, c, by rw [upd_ne lp]; exact h1, by rw [upd_ne lq]; exact h2, h3⟩, by rw [upd_ne lq]; exact b1, b2, b3⟩, ⟨fun b u e => ?_, fun b u e => ?_⟩, by rw [upd_ne lp]; exact gp, fun y hy => ?_, nod, Tabs.upd tab (fz.sub _ _ h) (fz.nt _ _ h)⟩
  · by_cases hb : b = l
    · rw [hb, upd_same] at e ⊢
      exact e
    · rw [upd_ne hb] at e ⊢
      exact fz.sub b u e
  · by_cases hb : b = l
    · rw [hb, upd_same] at e
      cases e
      exact nt
    · rw [upd_ne hb] at e
      exact fz.nt b u e
  · obtain ⟨c1, c2, c3⟩ := cel y hy
    have ly : y.1 ≠ l := fun z => by rw [z, h] at c2; cases c2
    rw [upd_ne ly, upd_ne ly]
    exact ⟨c1, c2, c3⟩
end
end Sk
namespace Sk
open PySem PySem.Spec PyProof.Rows L2
/-! ### catalogues -/
structure Ent where
  name : Str
  w : Int
  parts : List Str
/-- an entry: a tuple of a name, a weight and a list of names -/
def EntAt (G : Hp) (v : V) (e : Ent) : Prop := ∃ t l, v = .ref t ∧ G t = some (.tup [.str e.name, .int e.w, .ref l]) ∧ G l = some (.lst (e.parts.map V.str))
abbrev CatAt (G : Hp) (vs : List V) (es : List Ent) : Prop := Paired (EntAt G) vs es
theorem EntAt.mono {G G' : Hp} {v : V} {e : Ent} (h : EntAt G v e) (s : Same G G') : EntAt G' v e := by
  obtain ⟨t, l, a, b, c⟩ := h
  exact ⟨t, l, a, s _ _ b, s _ _ c⟩
theorem CatAt.mono {G G' : Hp} (s : Same G G') : ∀ {vs : List V} {es : List Ent}, CatAt G vs es → CatAt G' vs es
  | _, _, .nil => .nil
  | _, _, .cons h t => .cons (h.mono s) (CatAt.mono s t)
theorem EntAt.gr {Tb : List (Addr × Str)} {G G' : Hp} {v : V} {e : Ent} (h : EntAt G v e) (s : Gr Tb G G') : EntAt G' v e := by
  obtain ⟨t, l, a, b, c⟩ := h
  exact ⟨t, l, a, s.at b .tup, s.at c .lst⟩
theorem CatAt.gr {Tb : List (Addr × Str)} {G G' : Hp} (s : Gr Tb G G') : ∀ {vs : List V} {es : List Ent}, CatAt G vs es → CatAt G' vs es
  | _, _, .nil => .nil
  | _, _, .cons h t => .cons (h.gr s) (CatAt.gr s t)
section
variable {α β : Type} {R : α → β → Prop}
theorem Paired.len : ∀ {xs : List α} {ys : List β}, Paired R xs ys → xs.length = ys.length
  | _, _, .nil => rfl
  | _, _, .cons _ t => by rw [List.length_cons, List.length_cons, Paired.len t]
theorem Paired.at : ∀ {xs : List α} {ys : List β} {i : Nat} {x : α}, Paired R xs ys → xs[i]? = some x → ∃ y, ys[i]? = some y ∧ R x y
  | _, _, _, _, .nil, e => by simp at e
  | _, _, 0, _, .cons h _, e => by simp at e; subst e; exact ⟨_, rfl, h⟩
  | _, _, i + 1, x, .cons _ t, e => by
    obtain ⟨y, h1, h2⟩ := Paired.at (i := i) (x := x) t (by simpa using e)
    exact ⟨y, by simpa using h1, h2⟩
theorem Paired.at2 : ∀ {xs : List α} {ys : List β} {i : Nat} {y : β}, Paired R xs ys → ys[i]? = some y → ∃ x, xs[i]? = some x ∧ R x y
  | _, _, _, _, .nil, e => by simp at e
  | _, _, 0, _, .cons h _, e => by simp at e; subst e; exact ⟨_, rfl, h⟩
  | _, _, i + 1, y, .cons _ t, e => by
    obtain ⟨x, h1, h2⟩ := Paired.at2 (i := i) (y := y) t (by simpa using e)
    exact ⟨x, by simpa using h1, h2⟩
theorem Paired.snoc {x : α} {y : β} (h : R x y) : ∀ {xs : List α} {ys : List β}, Paired R xs ys → Paired R (xs ++ [x]) (ys ++ [y])
  | _, _, .nil => .cons h .nil
  | _, _, .cons a t => .cons a (Paired.snoc h t)
theorem Paired.app : ∀ {xs xs' : List α} {ys ys' : List β}, Paired R xs ys → Paired R xs' ys' → Paired R (xs ++ xs') (ys ++ ys')
  | _, _, _, _, .nil, s => s
  | _, _, _, _, .cons a t, s => .cons a (Paired.app t s)
theorem Paired.perm {xs xs' : List α} (p : xs'.Perm xs) : ∀ {ys : List β}, Paired R xs ys → ∃ ys', ys'.Perm ys ∧ Paired R xs' ys' := by
  induction p with
  | nil => intro ys h; exact ⟨ys, .refl _, h⟩
  | cons x _ ih =>
    intro ys h
    cases h with
    | cons a t =>
      obtain ⟨ys', p', h'⟩ := ih t
      exact ⟨_ :: ys', p'.cons _, .cons a h'⟩
  | swap x y l =>
    intro ys h
    cases h with
    | cons a t =>
      cases t with
      | cons b t => exact ⟨_, List.Perm.swap .., .cons b (.cons a t)⟩
  | trans _ _ ih1 ih2 =>
    intro ys h
    obtain ⟨y1, p1, h1⟩ := ih2 h
    obtain ⟨y2, p2, h2⟩ := ih1 h1
    exact ⟨y2, p2.trans p1, h2⟩
theorem Paired.map_left {γ : Type} {f : γ → α} : ∀ {xs : List γ} {ys : List β}, Paired R (xs.map f) ys → Paired (fun c => R (f c)) xs ys
  | [], _, h => by cases h; exact .nil
  | x :: xs, _, h => by
    cases h with
    | cons a t => exact .cons a (Paired.map_left t)
theorem Paired.imp {R' : α → β → Prop} (f : ∀ a b, R a b → R' a b) : ∀ {xs : List α} {ys : List β}, Paired R xs ys → Paired R' xs ys
  | _, _, .nil => .nil
  | _, _, .cons a t => .cons (f _ _ a) (Paired.imp f t)
theorem Paired.left {xs : List α} {ys : List β} (h : Paired R xs ys) {x : α} (hx : x ∈ xs) : ∃ y ∈ ys, R x y := by
  obtain ⟨i, hi⟩ := List.mem_iff_getElem?.mp hx
  obtain ⟨y, h1, h2⟩ := Paired.at h hi
  exact ⟨y, List.mem_of_getElem? h1, h2⟩
theorem Paired.right {xs : List α} {ys : List β} (h : Paired R xs ys) {y : β} (hy : y ∈ ys) : ∃ x ∈ xs, R x y := by
  obtain ⟨i, hi⟩ := List.mem_iff_getElem?.mp hy
  obtain ⟨x, h1, h2⟩ := Paired.at2 h hi
  exact ⟨x, List.mem_of_getElem? h1, h2⟩
end
/-! ### dicts of numbers -/
abbrev Num := List (Str × Int)
def dS (d : Num) : List (Key × V) := d.map fun q => (Sum.inr q.1, V.int q.2)
def get? (d : Num) (x : Str) : Option Int := (d.find? fun q => decide (q.1 = x)).map (·.2)
def getD (d : Num) (x : Str) : Int := (get? d x).getD 0
def put (d : Num) (x : Str) (i : Int) : Num := if (d.any fun q => decide (q.1 = x)) = true then d.map (fun q => if q.1 = x then (q.1, i) else q) else d ++ [(x, i)]
theorem inr_dec (a b : Str) : decide ((Sum.inr a : Key) = Sum.inr b) = decide (a = b) := key_rr a b
theorem valV_dS (d : Num) (x : Str) : valV (dS d) (Sum.inr x) = (get? d x).map V.int := by
  unfold dS valV get?
  rw [List.find?_map]
  have : ((fun kv : Key × V => decide (kv.1 = Sum.inr x)) ∘ fun q : Str × Int => ((Sum.inr q.1 : Key), V.int q.2)) = fun q => decide (q.1 = x) := by
    funext q
    exact inr_dec _ _
  rw [this]
  cases d.find? fun q => decide (q.1 = x) <;> rfl
theorem putK_dS (d : Num) (x : Str) (i : Int) : putK (dS d) (Sum.inr x) (.int i) = dS (put d x i) := by
  unfold dS putK put
  rw [List.any_map]
  have : ((fun kv : Key × V => decide (kv.1 = Sum.inr x)) ∘ fun q : Str × Int => ((Sum.inr q.1 : Key), V.int q.2)) = fun q => decide (q.1 = x) := by
    funext q
    exact inr_dec _ _
  rw [this]
  split
  · rw [List.map_map, List.map_map]
    refine List.map_congr_left fun q _ => ?_
    show (if (Sum.inr q.1 : Key) = Sum.inr x then _ else _) = _
    by_cases e : q.1 = x
    · have e2 : (Sum.inr q.1 : Key) = Sum.inr x := congrArg _ e
      rw [if_pos e2]
      show _ = ((Sum.inr (if q.1 = x then (q.1, i) else q).1 : Key), V.int (if q.1 = x then (q.1, i) else q).2)
      rw [if_pos e]
    · have e2 : ¬ (Sum.inr q.1 : Key) = Sum.inr x := fun z => e (Sum.inr.inj z)
      rw [if_neg e2]
      show _ = ((Sum.inr (if q.1 = x then (q.1, i) else q).1 : Key), V.int (if q.1 = x then (q.1, i) else q).2)
      rw [if_neg e]
  · rw [List.map_append]
    rfl
theorem dS_len (d : Num) : (dS d).length = d.length := List.length_map ..
/-! ### targets, comprehensions -/
theorem gtup3 {K : PySem.W.Frag} {i j k : Nat} {t : Addr} {x y z : V} {σ : L2.St} {H : Hp} {Q : L2.St → Hp → Prop} (h : H t = some (.tup [x, y, z])) (q : Q (((σ.set i (some x)).set j (some y)).set k (some z)) H) :
    gTup K 3 (gCons (gName i) (gCons (gName j) (gCons (gName k) gNil))) (.ref t) σ H Q := ⟨t, _, rfl, SqT.of h, rfl, x, _, rfl, y, _, rfl, z, _, rfl, rfl, q⟩
theorem gtup2 {K : PySem.W.Frag} {i j : Nat} {t : Addr} {x y : V} {σ : L2.St} {H : Hp} {Q : L2.St → Hp → Prop} (h : H t = some (.tup [x, y])) (q : Q ((σ.set i (some x)).set j (some y)) H) :
    gTup K 2 (gCons (gName i) (gCons (gName j) gNil)) (.ref t) σ H Q := ⟨t, _, rfl, SqT.of h, rfl, x, _, rfl, y, _, rfl, rfl, q⟩
theorem filterMap_take {α β : Type} (f : α → Option β) (xs : List α) {i : Nat} {x : α} (h : xs[i]? = some x) : (xs.take (i + 1)).filterMap f = (xs.take i).filterMap f ++ (f x).toList := by
  rw [List.take_add_one, h, List.filterMap_append]
  show _ ++ List.filterMap f [x] = _
  rw [List.filterMap_cons]
  cases f x <;> rfl
/-- a comprehension that makes, item by item, what f says; the heap grows meanwhile -/
theorem lc_fm {Tb : List (Addr × Str)} {J : It} {n : Nat} {GG : Hp → Prop} {xs : List V} (wk : Walk J n GG (YAt xs)) (hn : n = xs.length) {g : TG} {tt : TT} {te : TE} {vs : List Nat} {σ : L2.St} {H1 : Hp} {D : Addr} {Qd : Hp → Prop} (f : V → Option V) (hD : H1 D = none) (hz : n ≤ 16777215)
    (hG : ∀ H, Gr Tb H1 H → GG H)
    (turn : ∀ (i : Nat) (x : V) (H : Hp), xs[i]? = some x → Gr Tb H1 H → ∀ (Rk : V → Hp → Prop) (Rs : Hp → Prop), (∀ y H4, f x = some y → Gr Tb H H4 → Rk y H4) → (∀ H4, f x = none → Gr Tb H H4 → Rs H4) →
      g x (wipe σ vs) H fun σ2 H2 => wipe σ2 vs = wipe σ vs ∧ tt σ2 H2 fun b H3 => if b = true then te σ2 H3 Rk else Rs H3)
    (done : ∀ H, Gr Tb H1 H → H D = some (.lst (xs.filterMap f)) → Qd H) :
    ∃ W : Nat → Nat → Hp → Prop, (∃ m, W 0 m (upd H1 D (.lst []))) ∧ ∀ i m H, W i m H →
      (J.stop i H ∧ Qd H) ∨ (J.go i H ∧ ∃ Nx : Hp → Prop, (∀ H', Nx H' → ∃ m', m' < m ∧ W (i + 1) m' H') ∧ ∀ x H', J.yld i H x H' → g x (wipe σ vs) H' fun σ2 H2 => wipe σ2 vs = wipe σ vs ∧ tt σ2 H2 fun b H3 =>
        if b = true then te σ2 H3 fun y H4 => ∃ acc, H4 D = some (.lst acc) ∧ acc.length < sizeLine ∧ Nx (upd H4 D (.lst (acc ++ [y]))) else Nx H3) := by
  have put : ∀ {H : Hp} {acc acc' : List V}, Gr Tb H1 H → H D = some (.lst acc) → Gr Tb H1 (upd H D (.lst acc')) := fun {H acc acc'} g hd => by
    refine ⟨fun b o e nt => ?_, fun t p hp => ?_⟩
    · rw [upd_ne (ne_of_none e hD)]
      exact g.ext b o e nt
    · obtain ⟨ps, b1, b2, b3⟩ := g.tab t p hp
      have na : p.1 ≠ D := ne_of b1 hd (fun z => by cases z)
      refine ⟨ps, by rw [upd_ne na]; exact b1, b2, fun po cv hc => ?_⟩
      obtain ⟨c', e1, e2⟩ := b3 po cv hc
      refine ⟨c', e1, ?_⟩
      rw [upd_ne (ne_of e2 hd (fun z => by unfold LamX.CodeO at z; cases z))]
      exact e2
  have h0 : Gr Tb H1 (upd H1 D (.lst [])) := Gr.new hD
  refine lc_it wk (fun i H => Gr Tb H1 H ∧ H D = some (.lst ((xs.take i).filterMap f))) ⟨h0, upd_same⟩ (fun i H _ p => hG H p.1) (fun i x H H' hi p y => ?_) (fun H p => ?_)
  · obtain ⟨rfl, hx⟩ := y
    refine turn i x H' hx p.1 _ _ (fun y H4 e gr => ?_) (fun H4 e gr => ?_)
    · have hd := gr.at p.2 .lst
      refine ⟨_, hd, ?_, put (p.1.trans gr) hd, ?_⟩
      · have l1 : ((xs.take i).filterMap f).length ≤ i := Nat.le_trans (List.length_filterMap_le _ _) (by rw [List.length_take]; omega)
        rw [sizeLine_eq]
        omega
      · rw [upd_same, filterMap_take f xs hx, e]
        rfl
    · refine ⟨p.1.trans gr, ?_⟩
      rw [filterMap_take f xs hx, e, gr.at p.2 .lst]
      simp
  · refine done H p.1 ?_
    have := p.2
    rw [hn, List.take_length] at this
    exact this
/-- the signs of a text, each as a text -/
def signs (z : Str) : List V := z.cps.toList.map fun c => V.str ⟨#[c]⟩
theorem walk_text {z : Str} : Walk (Its z) (signs z).length (fun _ => True) (YAt (signs z)) := by
  have e : (signs z).length = z.cps.size := by
    unfold signs
    rw [List.length_map, Array.length_toList]
  rw [e]
  refine walk_str.mono (fun _ h => h) fun i H v H' hi _ y => ?_
  obtain ⟨h1, c, h2, h3⟩ := y
  refine ⟨h1, ?_⟩
  unfold signs
  rw [List.getElem?_map, Array.getElem?_toList, h2, h3]
  rfl
/-- all([c in z for c in x]) -/
theorem rd_allIn {Tb : List (Addr × Str)} {K : PySem.W.Frag} {i : Nat} {x z : Str} {σ : L2.St} {H : Hp} {Q : VK} (h0 : σ[0]? = some (some (.str x))) (hw : (wipe σ [i]).length = σ.length) (hi : i < σ.length) (hz : x.length ≤ 1000000)
    (k : ∀ H', Gr Tb H H' → Q (.bl (x.cps.toList.all fun c => decide (c ∈ z.cps.toList))) H') :
    tCB (rAll K) (tCons (tLc (iStr (tVar 0)) (gName i) tYes (tOp (fun x y H Q => ∃ (c : Nat) (z : Str), x = V.str ⟨#[c]⟩ ∧ y = V.str z ∧ Q (V.bl (decide (c ∈ z.cps.toList))) H) (tVar i) (tC (V.str z))) [i]) tNil) σ H Q := by
  refine ⟨_, h0, x, rfl, fun D hD => lc_fm (Tb := Tb) (xs := signs x) walk_text rfl (fun v => match v with | .str y => some (.bl (decide (y.cps.getD 0 0 ∈ z.cps.toList))) | _ => none) hD ?_ (fun _ _ => trivial) (fun j v H' hv _ Rk Rs hk hs => ?_) fun H' g hd => ?_⟩
  · unfold signs
    rw [List.length_map, Array.length_toList]
    have : x.cps.size = x.length := rfl
    omega
  · unfold signs at hv
    rw [List.getElem?_map] at hv
    cases hc : x.cps.toList[j]? with
    | none =>
      rw [hc] at hv
      cases hv
    | some c =>
      rw [hc] at hv
      cases hv
      refine ⟨?_, V.str ⟨#[c]⟩, ?_, c, z, rfl, rfl, hk _ _ ?_ (Gr.refl _)⟩
      · show List.set (List.set (List.set σ i none) i (some (V.str ⟨#[c]⟩))) i none = List.set σ i none
        rw [List.set_set, List.set_set]
      · rw [List.getElem?_set_self (by rw [hw]; exact hi)]
      · simp
  · refine ⟨D, x.cps.toList.map fun c => decide (c ∈ z.cps.toList), rfl, ?_, ?_⟩
    · have e : (signs x).filterMap (fun v => match v with | .str y => some (V.bl (decide (y.cps.getD 0 0 ∈ z.cps.toList))) | _ => none) = (x.cps.toList.map fun c => decide (c ∈ z.cps.toList)).map V.bl := by
        unfold signs
        rw [List.filterMap_map, List.map_map, ← List.filterMap_eq_map]
        rfl
      rw [e] at hd
      exact SqL.of hd
    · have e : (x.cps.toList.map fun c => decide (c ∈ z.cps.toList)).all id = x.cps.toList.all fun c => decide (c ∈ z.cps.toList) := by
        rw [List.all_map]
        rfl
      rw [e]
      exact k H' g
/-! ### a list beside an empty one -/
def rNil (K : PySem.W.Frag) (neg : Bool) : R2 := fun x y H Q => ∃ (a b : Addr) (xs : List V), x = .ref a ∧ y = .ref b ∧ SqL K H a xs ∧ SqL K H b [] ∧ Q (.bl (if neg then !xs.isEmpty else xs.isEmpty)) H
section
variable {X : Cx}
theorem op_eqNil (hu : X.A.units + 64 < cLine) : OpR X (compareOp .Eq) (rNil X.K false) := by
  intro pins s σ H x y v u Q I rx ry h
  obtain ⟨a, b, xs, rfl, rfl, hx, hy, q⟩ := h
  obtain rfl : v = Value.ref a := rx
  obtain rfl : u = Value.ref b := ry
  obtain ⟨its, r1, p1, _⟩ := I.list hx
  obtain ⟨its2, r2, p2, _⟩ := I.list hy
  cases r2
  cases xs with
  | nil =>
    cases r1
    exact SeqAt.eq_listAt (e := fun _ => true) p1.isList p2.isList rfl (by omega) (fun j h1 => absurd h1 (by simp)) ⟨.bl true, H, I, rfl, q⟩
  | cons z zs =>
    cases r1
    exact SeqAt.eq_list_lengthsAt p1.isList p2.isList (by simp) (by omega) ⟨.bl false, H, I, rfl, q⟩
theorem op_neNil (hu : X.A.units + 64 < cLine) : OpR X (compareOp .NotEq) (rNil X.K true) := by
  intro pins s σ H x y v u Q I rx ry h
  obtain ⟨a, b, xs, rfl, rfl, hx, hy, q⟩ := h
  obtain rfl : v = Value.ref a := rx
  obtain rfl : u = Value.ref b := ry
  obtain ⟨its, r1, p1, _⟩ := I.list hx
  obtain ⟨its2, r2, p2, _⟩ := I.list hy
  cases r2
  cases xs with
  | nil =>
    cases r1
    exact SeqAt.RcNeAt.lists (e := fun _ => true) p1.isList p2.isList rfl (by omega) (fun j h1 => absurd h1 (by simp)) _ _ _ _ ⟨.bl false, H, I, rfl, q⟩
  | cons z zs =>
    cases r1
    exact SeqAt.RcNeAt.lists_lengths p1.isList p2.isList (by simp) (by omega) _ _ _ _ ⟨.bl true, H, I, rfl, q⟩
end
/-- the reading: x beside a new empty list -/
theorem rd_nil {K : PySem.W.Frag} {neg : Bool} {a : Addr} {xs : List V} {σ : L2.St} {H : Hp} {Q : VK} (h : SqL K H a xs) (k : ∀ p, H p = none → Q (.bl (if neg then !xs.isEmpty else xs.isEmpty)) (upd H p (.lst []))) :
    tLst tNil σ H fun y H2 => rNil K neg (.ref a) y H2 Q := ⟨Nat.zero_le _, fun p hp => ⟨a, p, xs, rfl, rfl, (Same.upd hp).seq h, SqL.of upd_same, k p hp⟩⟩
/-- while, the test apart from the body: Pv ahead of the test, PT behind a true one, PF behind a false one -/
theorem while_cps {c : TT} {tb : TS} {D : Ends} {σ : L2.St} {H : Hp} (Pv PT PF : Nat → L2.St → Hp → Prop) (m0 : Nat) (h0 : Pv m0 σ H)
    (test : ∀ m σ H, Pv m σ H → ∀ R : Bool → Hp → Prop, (∀ H1, PT m σ H1 → R true H1) → (∀ H1, PF m σ H1 → R false H1) → c σ H R)
    (body : ∀ m σ H, PT m σ H → tb { D with nx := fun σ' H' => ∃ m', m' < m ∧ Pv m' σ' H', ct := fun σ' H' => ∃ m', m' < m ∧ Pv m' σ' H', bk := D.nx } σ H) (done : ∀ m σ H, PF m σ H → D.nx σ H) : tWhile c tb D σ H := by
  refine ⟨Pv, ⟨m0, h0⟩, fun m σ H p => ?_⟩
  refine test m σ H p _ (fun H1 q => ?_) (fun H1 q => ?_)
  · show (if true = true then _ else _)
    rw [if_pos rfl]
    exact ⟨_, fun _ _ n => n, body m σ H1 q⟩
  · show (if false = true then _ else _)
    rw [if_neg Bool.false_ne_true]
    exact done m σ H1 q
/-- the first item of the tuple that stands at v -/
def itemAt (H : Hp) (i : Nat) : V → Option V
  | .ref t => match H t with
    | some (.tup xs) => xs[i]?
    | _ => none
  | _ => none
theorem itemAt_tup {H : Hp} {t : Addr} {xs : List V} {i : Nat} (h : H t = some (.tup xs)) : itemAt H i (.ref t) = xs[i]? := by
  show (match H t with
    | some (.tup xs) => xs[i]?
    | _ => none) = xs[i]?
  rw [h]
theorem fm_paired {α β γ : Type} {R : α → β → Prop} {f : α → Option γ} {g : β → γ} (hf : ∀ a b, R a b → f a = some (g b)) : ∀ {xs : List α} {ys : List β}, Paired R xs ys → xs.filterMap f = ys.map g
  | _, _, .nil => rfl
  | x :: xs, y :: ys, .cons a t => by
    rw [List.filterMap_cons, hf _ _ a, fm_paired hf t]
    rfl
theorem fm_pairedO {α β γ : Type} {R : α → β → Prop} {f : α → Option γ} {g : β → Option γ} (hf : ∀ a b, R a b → f a = g b) : ∀ {xs : List α} {ys : List β}, Paired R xs ys → xs.filterMap f = ys.filterMap g
  | _, _, .nil => rfl
  | x :: xs, y :: ys, .cons a t => by
    rw [List.filterMap_cons, List.filterMap_cons, hf _ _ a, fm_pairedO hf t]
/-- the index of an item from the start -/
theorem seq_ix {r : Int} {n : Nat} (h0 : 0 ≤ r) (h1 : r < n) : seqIndex? r n = some r.toNat := by
  unfold seqIndex?
  rw [if_neg (show ¬ r < 0 by omega)]
  simp
  exact ⟨h0, h1⟩
theorem perm_map {α β : Type} (f : α → β) {ys : List β} {xs : List α} (p : ys.Perm (xs.map f)) : ∃ zs : List α, ys = zs.map f ∧ zs.Perm xs := by
  have h : Paired (fun y x => y = f x) (xs.map f) xs := by
    clear p
    induction xs with
    | nil => exact .nil
    | cons x xs ih => exact .cons rfl ih
  obtain ⟨zs, p1, h1⟩ := Paired.perm p h
  refine ⟨zs, ?_, p1⟩
  clear p p1 h
  induction h1 with
  | nil => rfl
  | cons a _ ih => rw [List.map_cons, ← a, ← ih]
theorem pick_at {α : Type} {xs : List α} {r : Int} (h0 : 0 ≤ r) (h1 : r < xs.length) : ∃ y ∈ xs, atI xs r = some y := by
  obtain ⟨j, rfl⟩ := Int.eq_ofNat_of_zero_le h0
  have hj : j < xs.length := by omega
  exact ⟨xs[j], List.getElem_mem _, atI_nat (List.getElem?_eq_getElem hj)⟩
theorem pick_int {xs : List V} (is : List Int) {r : Int} {P : Int → Prop} (e : xs = is.map V.int) (h0 : 0 ≤ r) (h1 : r < is.length) (hp : ∀ i ∈ is, P i) : ∃ i, atI xs r = some (.int i) ∧ P i := by
  subst e
  obtain ⟨y, hy, e⟩ := pick_at (xs := is.map V.int) h0 (by rw [List.length_map]; exact h1)
  obtain ⟨i, hi, rfl⟩ := List.mem_map.mp hy
  exact ⟨i, e, hp i hi⟩
theorem cut_take {xs : List V} {k : Int} (h : 0 ≤ k) : cutV xs none (some k) = xs.take k.toNat := by
  obtain ⟨j, rfl⟩ := Int.eq_ofNat_of_zero_le h
  unfold cutV
  rw [HT.sIx_nat, HT.sIx_none]
  show List.take (min j xs.length - 0) xs = List.take j xs
  rw [Nat.sub_zero]
  rcases Nat.le_total j xs.length with z | z
  · rw [Nat.min_eq_left z]
  · rw [Nat.min_eq_right z, List.take_length, List.take_of_length_le z]
/-- what is known behind an expression -/
theorem rd_post {t : TE} {σ : L2.St} {H : Hp} {Q : VK} (P : V → Hp → Prop) (h : ∀ Q' : VK, (∀ x H', P x H' → Q' x H') → t σ H Q') (k : ∀ x H', P x H' → Q x H') : t σ H Q := h Q k
theorem goN {i : Nat} {x : V} {σ : L2.St} {H : Hp} {Q : L2.St → Hp → Prop} (h : Q (σ.set i (some x)) H) : gName i x σ H Q := h
/-- x = e; then the rest: what is known behind e -/
theorem sq_asg {t : TE} {i : Nat} {u : TS} {D : Ends} {σ : L2.St} {H : Hp} (P : V → Hp → Prop) (h : ∀ Q' : VK, (∀ x H', P x H' → Q' x H') → t σ H Q') (k : ∀ x H', P x H' → u D (σ.set i (some x)) H') : tSeq (tAsg t (gName i)) u D σ H := h _ k
/-- t; then the rest: what is known behind t -/
theorem sq_st {t u : TS} {D : Ends} {σ : L2.St} {H : Hp} (P : L2.St → Hp → Prop) (h : ∀ N : L2.St → Hp → Prop, (∀ σ' H', P σ' H' → N σ' H') → t { D with nx := N } σ H) (k : ∀ σ' H', P σ' H' → u D σ' H') : tSeq t u D σ H := h _ k
theorem Paired.flip {α β : Type} {R : α → β → Prop} : ∀ {xs : List α} {ys : List β}, Paired R xs ys → Paired (fun y x => R x y) ys xs
  | _, _, .nil => .nil
  | _, _, .cons a t => .cons a (Paired.flip t)
theorem Paired.trans {α β γ : Type} {R : α → β → Prop} {S : β → γ → Prop} : ∀ {xs : List α} {ys : List β} {zs : List γ}, Paired R xs ys → Paired S ys zs → Paired (fun x z => ∃ y, R x y ∧ S y z) xs zs
  | _, _, _, .nil, .nil => .nil
  | _, _, _, .cons a t, .cons b u => .cons ⟨_, a, b⟩ (Paired.trans t u)
/-- a list that is not yet known is written -/
theorem Gr.put {Tb : List (Addr × Str)} {H1 H : Hp} {D : Addr} {acc acc' : List V} (hD : H1 D = none) (g : Gr Tb H1 H) (hd : H D = some (.lst acc)) : Gr Tb H1 (upd H D (.lst acc')) := g.mut (.of hD) hd .lst
/-- a comprehension that makes, item by item, something that R tells of; the heap grows meanwhile -/
theorem lc_rel {Tb : List (Addr × Str)} {J : It} {n : Nat} {GG : Hp → Prop} {xs : List V} (wk : Walk J n GG (YAt xs)) (hn : n = xs.length) {g : TG} {tt : TT} {te : TE} {vs : List Nat} {σ : L2.St} {H1 : Hp} {D : Addr} {Qd : Hp → Prop} (keep : V → Bool) (R : Hp → V → V → Prop)
    (mono : ∀ H H' x y, (∀ a o, NoTab o → (∀ l, o ≠ .lst l) ∨ a ≠ D → H a = some o → H' a = some o) → R H x y → R H' x y) (hD : H1 D = none) (hz : n ≤ 16777215)
    (hG : ∀ H, Gr Tb H1 H → GG H)
    (turn : ∀ (i : Nat) (x : V) (H : Hp), xs[i]? = some x → Gr Tb H1 H → H D ≠ none → ∀ (Rk : V → Hp → Prop) (Rs : Hp → Prop), (∀ y H4, keep x = true → Gr Tb H H4 → R H4 x y → Rk y H4) → (∀ H4, keep x = false → Gr Tb H H4 → Rs H4) →
      g x (wipe σ vs) H fun σ2 H2 => wipe σ2 vs = wipe σ vs ∧ tt σ2 H2 fun b H3 => if b = true then te σ2 H3 Rk else Rs H3)
    (done : ∀ H ys, Gr Tb H1 H → H D = some (.lst ys) → Paired (R H) (xs.filter keep) ys → Qd H) :
    ∃ W : Nat → Nat → Hp → Prop, (∃ m, W 0 m (upd H1 D (.lst []))) ∧ ∀ i m H, W i m H →
      (J.stop i H ∧ Qd H) ∨ (J.go i H ∧ ∃ Nx : Hp → Prop, (∀ H', Nx H' → ∃ m', m' < m ∧ W (i + 1) m' H') ∧ ∀ x H', J.yld i H x H' → g x (wipe σ vs) H' fun σ2 H2 => wipe σ2 vs = wipe σ vs ∧ tt σ2 H2 fun b H3 =>
        if b = true then te σ2 H3 fun y H4 => ∃ acc, H4 D = some (.lst acc) ∧ acc.length < sizeLine ∧ Nx (upd H4 D (.lst (acc ++ [y]))) else Nx H3) := by
  have h0 : Gr Tb H1 (upd H1 D (.lst [])) := Gr.new hD
  refine lc_it wk (fun i H => Gr Tb H1 H ∧ ∃ ys, H D = some (.lst ys) ∧ Paired (R H) ((xs.take i).filter keep) ys) ⟨h0, [], upd_same, by rw [List.take_zero]; exact .nil⟩ (fun i H _ p => hG H p.1) (fun i x H H' hi p y => ?_) (fun H p => ?_)
  · obtain ⟨rfl, hx⟩ := y
    obtain ⟨g1, ys, hd, pr⟩ := p
    have tk : (xs.take (i + 1)).filter keep = (xs.take i).filter keep ++ [x].filter keep := by
      rw [List.take_add_one, hx, List.filter_append]
      rfl
    refine turn i x H' hx g1 (by rw [hd]; exact fun z => by cases z) _ _ (fun y H4 e gr r => ?_) (fun H4 e gr => ?_)
    · have hd4 := gr.at hd .lst
      have hle : ys.length ≤ i := by
        rw [← Paired.len pr]
        exact Nat.le_trans (List.length_filter_le _ _) (by rw [List.length_take]; omega)
      refine ⟨_, hd4, by rw [sizeLine_eq]; omega, Gr.put hD (g1.trans gr) hd4, ys ++ [y], upd_same, ?_⟩
      rw [tk, List.filter_cons, if_pos e, List.filter_nil]
      have m2 : ∀ x z, R H4 x z → R (upd H4 D (.lst (ys ++ [y]))) x z := fun x z r => mono H4 _ x z (fun a o _ ha q => by
        rw [upd_ne]
        · exact q
        · rcases ha with ha | ha
          · exact fun e => by
              rw [e, hd4] at q
              cases q
              exact ha _ rfl
          · exact ha) r
      exact Paired.snoc (m2 x y r) (Paired.imp (fun a b r' => m2 a b (mono H' H4 a b (fun a o nt _ q => gr.at q nt) r')) pr)
    · refine ⟨g1.trans gr, ys, gr.at hd .lst, ?_⟩
      rw [tk, List.filter_cons, if_neg (by rw [e]; exact Bool.false_ne_true), List.filter_nil, List.append_nil]
      exact Paired.imp (fun a b r' => mono H' H4 a b (fun a o nt _ q => gr.at q nt) r') pr
  · obtain ⟨g1, ys, hd, pr⟩ := p
    rw [hn, List.take_length] at pr
    exact done H ys g1 hd pr
/-- [entry[0] for entry in ..] -/
theorem lc_names {Tb : List (Addr × Str)} {K : PySem.W.Frag} {a : Addr} {ys : List V} {es : List Ent} {i : Nat} {σ : L2.St} {H1 : Hp} {D : Addr} {Qd : Hp → Prop} (ha : SqL K H1 a ys) (hc : CatAt H1 ys es) (hz : es.length ≤ 100000) (hD : H1 D = none) (hi : (σ.set i none)[i]? = some none)
    (k : ∀ H', Gr Tb H1 H' → H' D = some (.lst ((es.map (·.name)).map V.str)) → Qd H') :
    ∃ W : Nat → Nat → Hp → Prop, (∃ m, W 0 m (upd H1 D (.lst []))) ∧ ∀ j m H, W j m H →
      ((Itl K a).stop j H ∧ Qd H) ∨ ((Itl K a).go j H ∧ ∃ Nx : Hp → Prop, (∀ H', Nx H' → ∃ m', m' < m ∧ W (j + 1) m' H') ∧ ∀ x H', (Itl K a).yld j H x H' → gName i x (wipe σ [i]) H' fun σ2 H2 => wipe σ2 [i] = wipe σ [i] ∧ tYes σ2 H2 fun b H3 =>
        if b = true then (tOp (rIxT K) (tVar i) (tC (.int 0))) σ2 H3 fun y H4 => ∃ acc, H4 D = some (.lst acc) ∧ acc.length < sizeLine ∧ Nx (upd H4 D (.lst (acc ++ [y]))) else Nx H3) := by
  have hl := Paired.len hc
  have hil : i < σ.length := by
    have := (List.getElem?_eq_some_iff.mp hi).1
    rwa [List.length_set] at this
  refine lc_fm (Tb := Tb) (xs := ys) walk_list rfl (itemAt H1 0) hD (by omega) (fun H' g => g.ext_seq ha) (fun j v H' hv g Rk Rs hk hs => ?_) fun H' g hD' => ?_
  · obtain ⟨e, he, t, lp, rfl, h1, h2⟩ := Paired.at hc hv
    have e1 : wipe ((wipe σ [i]).set i (some (V.ref t))) [i] = wipe σ [i] := by
      show List.set (List.set (List.set σ i none) i (some (V.ref t))) i none = List.set σ i none
      rw [List.set_set, List.set_set]
    have e2 : ((wipe σ [i]).set i (some (V.ref t)))[i]? = some (some (V.ref t)) := by
      show (List.set (List.set σ i none) i (some (V.ref t)))[i]? = _
      rw [List.getElem?_set_self (by rw [List.length_set]; exact hil)]
    exact ⟨e1, _, e2, t, _, _, _, rfl, rfl, SqT.of (g.at h1 .tup), atI_nat (j := 0) rfl, hk _ _ (by rw [itemAt_tup h1]; rfl) (Gr.refl _)⟩
  · have e : ys.filterMap (itemAt H1 0) = (es.map (·.name)).map V.str := by
      rw [List.map_map]
      exact fm_paired (fun v e ⟨t, lp, h0, h1, h2⟩ => by rw [h0, itemAt_tup h1]; rfl) hc
    rw [e] at hD'
    exact k H' g hD'
end Sk
/-! dicts of numbers -/
namespace Sk
open PySem PySem.Spec PyProof.Rows L2
/-- f at the names of es -/
def numOf (es : List Ent) (f : Str → Int) : Num := es.map fun e => (e.name, f e.name)
def upF (f : Str → Int) (x : Str) (i : Int) : Str → Int := fun y => if y = x then i else f y
theorem numOf_names (es : List Ent) (f : Str → Int) : (numOf es f).map (·.1) = es.map (·.name) := by
  unfold numOf
  rw [List.map_map]
  rfl
theorem numOf_len (es : List Ent) (f : Str → Int) : (numOf es f).length = es.length := List.length_map ..
theorem get?_numOf {f : Str → Int} {x : Str} : ∀ {es : List Ent}, x ∈ es.map (·.name) → get? (numOf es f) x = some (f x)
  | [], h => by cases h
  | e :: es, h => by
    unfold numOf get?
    rw [List.map_cons, List.find?_cons]
    by_cases q : e.name = x
    · rw [show decide ((e.name, f e.name).1 = x) = true from decide_eq_true q, ← q]
      rfl
    · rw [show decide ((e.name, f e.name).1 = x) = false from decide_eq_false q]
      rw [List.map_cons] at h
      exact get?_numOf ((List.mem_cons.mp h).resolve_left fun z => q z.symm)
theorem get?_none {d : Num} {x : Str} (h : x ∉ d.map (·.1)) : get? d x = none := by
  unfold get?
  rw [List.find?_eq_none.mpr fun q hq => by
    rw [decide_eq_true_eq]
    exact fun e => h (List.mem_map.mpr ⟨q, hq, e⟩)]
  rfl
theorem getD_numOf {es : List Ent} {f : Str → Int} {x : Str} (h : x ∈ es.map (·.name)) : getD (numOf es f) x = f x := by
  unfold getD
  rw [get?_numOf h]
  rfl
theorem getD_none {d : Num} {x : Str} (h : x ∉ d.map (·.1)) : getD d x = 0 := by
  unfold getD
  rw [get?_none h]
  rfl
theorem put_numOf {es : List Ent} {f : Str → Int} {x : Str} {i : Int} (h : x ∈ es.map (·.name)) : put (numOf es f) x i = numOf es (upF f x i) := by
  unfold put
  rw [if_pos]
  · unfold numOf upF
    rw [List.map_map]
    refine List.map_congr_left fun e _ => ?_
    show (if e.name = x then (e.name, i) else (e.name, f e.name)) = (e.name, if e.name = x then i else f e.name)
    split <;> rfl
  · rw [List.any_eq_true]
    obtain ⟨e, he, q⟩ := List.mem_map.mp h
    exact ⟨(e.name, f e.name), List.mem_map.mpr ⟨e, he, rfl⟩, decide_eq_true q⟩
theorem numOf_congr {es : List Ent} {f g : Str → Int} (h : ∀ e ∈ es, f e.name = g e.name) : numOf es f = numOf es g := List.map_congr_left fun e he => by rw [h e he]
/-! ### d[x], d.get(x, 0), d[x] = i -/
theorem dgetO {H : Hp} {a : Addr} {d : Num} (h : H a = some (.dK (dS d))) (x : Str) : DGet H a (.str x) ((get? d x).map V.int) := by
  have := DGet.k (k := Sum.inr x) h
  rw [valV_dS] at this
  exact this
theorem dgetS {H : Hp} {a : Addr} {d : Num} {x : Str} {i : Int} (h : H a = some (.dK (dS d))) (e : get? d x = some i) : DGet H a (.str x) (some (.int i)) := by
  have := dgetO h x
  rw [e] at this
  exact this
theorem getO (d : Num) (x : Str) : ((get? d x).map V.int).getD (.int 0) = .int (getD d x) := by
  unfold getD
  cases get? d x <;> rfl
/-- d.get(x, 0), what is known -/
theorem dget2 {H : Hp} {a : Addr} {d : Num} {x : Str} {Q : VK} (h : H a = some (.dK (dS d))) (q : Q (.int (getD d x)) H) : ∃ o, DGet H a (.str x) o ∧ Q (o.getD (.int 0)) H := ⟨_, dgetO h x, by rw [getO]; exact q⟩
theorem dputS {H : Hp} {a : Addr} {d : Num} {x : Str} {i : Int} (h : H a = some (.dK (dS d))) (hz : d.length < sizeLine) : DPut H a (.str x) (.int i) (upd H a (.dK (dS (put d x i)))) := .inl ⟨_, Sum.inr x, h, rfl, by rw [dS_len]; exact hz, by rw [putK_dS]⟩
theorem IsD.num {H : Hp} {a : Addr} {d : Num} (h : H a = some (.dK (dS d))) : IsD H a := .inl ⟨_, .inl h⟩
/-! ### a dict comprehension of numbers -/
def putAll (d : Num) (l : Num) : Num := l.foldl (fun d q => put d q.1 q.2) d
theorem put_new' {d : Num} {x : Str} {i : Int} (h : x ∉ d.map (·.1)) : put d x i = d ++ [(x, i)] := by
  unfold put
  rw [if_neg]
  rw [List.any_eq_true]
  rintro ⟨q, hq, e⟩
  exact h (List.mem_map.mpr ⟨q, hq, by simpa using e⟩)
theorem putAll_new : ∀ (l d : Num), ((d ++ l).map (·.1)).Nodup → putAll d l = d ++ l
  | [], d, _ => (List.append_nil d).symm
  | q :: l, d, h => by
    have e : d ++ q :: l = (d ++ [q]) ++ l := by rw [List.append_assoc]; rfl
    rw [e] at h
    have hn : q.1 ∉ d.map (·.1) := by
      rw [List.map_append, List.map_append, List.append_assoc] at h
      have h2 := (List.nodup_append.mp h).2.2
      exact fun hm => h2 _ hm _ (List.mem_append_left _ (List.mem_map.mpr ⟨q, List.mem_singleton.mpr rfl, rfl⟩)) rfl
    show putAll (put d q.1 q.2) l = _
    rw [put_new' hn, putAll_new l _ h, e]
theorem put_len (d : Num) (x : Str) (i : Int) : (put d x i).length ≤ d.length + 1 := by
  unfold put
  split
  · rw [List.length_map]
    omega
  · rw [List.length_append]
    exact Nat.le_refl _
theorem putAll_len : ∀ (l d : Num), (putAll d l).length ≤ d.length + l.length
  | [], d => Nat.le_refl _
  | q :: l, d => by
    have h1 := putAll_len l (put d q.1 q.2)
    have h2 := put_len d q.1 q.2
    rw [List.length_cons]
    show (putAll (put d q.1 q.2) l).length ≤ _
    omega
theorem Gr.putD {Tb : List (Addr × Str)} {H1 H : Hp} {D : Addr} {acc acc' : List (Key × V)} (hD : H1 D = none) (g : Gr Tb H1 H) (hd : H D = some (.dK acc)) : Gr Tb H1 (upd H D (.dK acc')) := g.mut (.of hD) hd .dK
/-- a dict comprehension that makes, item by item, what f says; the heap grows meanwhile -/
theorem dc_fm {Tb : List (Addr × Str)} {J : It} {n : Nat} {GG : Hp → Prop} {xs : List V} (wk : Walk J n GG (YAt xs)) (hn : n = xs.length) {g : TG} {tt : TT} {tk tv : TE} {vs : List Nat} {σ : L2.St} {H1 : Hp} {D : Addr} {Qd : Hp → Prop} (f : V → Option (Str × Int)) (hD : H1 D = none) (hz : n ≤ 100000)
    (hG : ∀ H, Gr Tb H1 H → GG H)
    (turn : ∀ (i : Nat) (x : V) (H : Hp), xs[i]? = some x → Gr Tb H1 H → ∀ (Rk : V → V → Hp → Prop) (Rs : Hp → Prop), (∀ q H4, f x = some q → Gr Tb H H4 → Rk (.str q.1) (.int q.2) H4) → (∀ H4, f x = none → Gr Tb H H4 → Rs H4) →
      g x (wipe σ vs) H fun σ2 H2 => wipe σ2 vs = wipe σ vs ∧ tt σ2 H2 fun b H3 => if b = true then tk σ2 H3 fun y H4 => tv σ2 H4 fun z H5 => Rk y z H5 else Rs H3)
    (done : ∀ H, Gr Tb H1 H → H D = some (.dK (dS (putAll [] (xs.filterMap f)))) → Qd H) :
    ∃ W : Nat → Nat → Hp → Prop, (∃ m, W 0 m (upd H1 D (.dK []))) ∧ ∀ i m H, W i m H →
      (J.stop i H ∧ Qd H) ∨ (J.go i H ∧ ∃ Nx : Hp → Prop, (∀ H', Nx H' → ∃ m', m' < m ∧ W (i + 1) m' H') ∧ ∀ x H', J.yld i H x H' → g x (wipe σ vs) H' fun σ2 H2 => wipe σ2 vs = wipe σ vs ∧ tt σ2 H2 fun b H3 =>
        if b = true then tk σ2 H3 fun y H4 => tv σ2 H4 fun z H5 => ∃ kvs k, y = kV k ∧ H5 D = some (.dK kvs) ∧ kvs.length < sizeLine ∧ Nx (upd H5 D (.dK (putK kvs k z))) else Nx H3) := by
  have h0 : Gr Tb H1 (upd H1 D (.dK [])) := Gr.new hD
  let P : Nat → Hp → Prop := fun i H => Gr Tb H1 H ∧ H D = some (.dK (dS (putAll [] ((xs.take i).filterMap f))))
  refine ⟨fun i m H => m = n - i ∧ i ≤ n ∧ P i H, ⟨n, rfl, Nat.zero_le _, h0, by rw [List.take_zero]; exact upd_same⟩, ?_⟩
  rintro i m H ⟨rfl, hi, p⟩
  have q := hG H p.1
  by_cases hlt : i < n
  · refine .inr ⟨wk.goes i H hlt q, P (i + 1), fun H' p' => ⟨n - (i + 1), by omega, rfl, hlt, p'⟩, fun x H' y => ?_⟩
    obtain ⟨rfl, hx⟩ := wk.yields i H x H' hlt q y
    obtain ⟨g1, hd⟩ := p
    have lle : (putAll [] ((xs.take i).filterMap f)).length ≤ 100000 := by
      have h1 := putAll_len ((xs.take i).filterMap f) []
      have h2 : ((xs.take i).filterMap f).length ≤ i := Nat.le_trans (List.length_filterMap_le _ _) (by rw [List.length_take]; omega)
      have h3 : ([] : Num).length = 0 := rfl
      omega
    refine turn i x H' hx g1 (fun y z H5 => ∃ kvs k, y = kV k ∧ H5 D = some (.dK kvs) ∧ kvs.length < sizeLine ∧ P (i + 1) (upd H5 D (.dK (putK kvs k z)))) (P (i + 1)) (fun q H4 e gr => ?_) (fun H4 e gr => ?_)
    · have hd4 := gr.at hd .dK
      refine ⟨_, Sum.inr q.1, rfl, hd4, ?_, Gr.putD hD (g1.trans gr) hd4, ?_⟩
      · rw [dS_len, sizeLine_eq]
        omega
      · rw [upd_same, filterMap_take f xs hx, e, putK_dS]
        unfold putAll
        rw [Option.toList_some, List.foldl_append]
        rfl
    · refine ⟨g1.trans gr, ?_⟩
      rw [filterMap_take f xs hx, e, gr.at hd .dK]
      simp
  · have e : i = n := by omega
    subst e
    refine .inl ⟨wk.stops H q, done H p.1 ?_⟩
    have := p.2
    rw [hn, List.take_length] at this
    exact this
/-! ### numbers grow -/
def addAll (f : Str → Int) (l : Num) : Str → Int := l.foldl (fun f q => upF f q.1 (f q.1 + q.2)) f
theorem addAll_append (f : Str → Int) (l m : Num) : addAll f (l ++ m) = addAll (addAll f l) m := List.foldl_append ..
theorem addAll_snoc (f : Str → Int) (l : Num) (q : Str × Int) : addAll f (l ++ [q]) = upF (addAll f l) q.1 (addAll f l q.1 + q.2) := by
  rw [addAll_append]
  rfl
def amt (l : Num) (x : Str) : Int := (l.map fun q => if q.1 = x then q.2 else 0).sum
def ones (l : List Str) : Num := l.map fun p => (p, 1)
theorem amt_cons (q : Str × Int) (l : Num) (x : Str) : amt (q :: l) x = (if q.1 = x then q.2 else 0) + amt l x := by
  unfold amt
  rw [List.map_cons, List.sum_cons]
theorem amt_append (l m : Num) (x : Str) : amt (l ++ m) x = amt l x + amt m x := by
  induction l with
  | nil =>
    show amt m x = 0 + amt m x
    omega
  | cons q l ih =>
    rw [List.cons_append, amt_cons, amt_cons, ih]
    omega
theorem addAll_at : ∀ (l : Num) (f : Str → Int) (x : Str), addAll f l x = f x + amt l x
  | [], f, x => by
    show f x = f x + 0
    omega
  | q :: l, f, x => by
    show addAll (upF f q.1 (f q.1 + q.2)) l x = _
    rw [addAll_at l, amt_cons]
    unfold upF
    by_cases h : x = q.1
    · rw [if_pos h, if_pos h.symm, h]
      omega
    · rw [if_neg h, if_neg fun z => h z.symm]
      omega
/-- what the splits add: to each part, for each entry -/
def incs (es : List Ent) (f : Str → Int) : Num := es.flatMap fun e => e.parts.map fun p => (p, f e.name)
theorem incs_snoc {es : List Ent} {f : Str → Int} {i : Nat} {e : Ent} (h : es[i]? = some e) : incs (es.take (i + 1)) f = incs (es.take i) f ++ e.parts.map fun p => (p, f e.name) := by
  unfold incs
  rw [List.take_add_one, h, List.flatMap_append]
  simp
/-- the pieces of each kind: of the stock, of the splits -/
def pn (es : List Ent) (st sp : Num) : Str → Int := addAll (getD st) (incs es (getD sp))
theorem amt_perm {es es' : List Ent} (p : es'.Perm es) (f : Str → Int) (x : Str) : amt (incs es' f) x = amt (incs es f) x := by
  induction p with
  | nil => rfl
  | cons e _ ih =>
    unfold incs at ih ⊢
    rw [List.flatMap_cons, List.flatMap_cons, amt_append, amt_append, ih]
  | swap a b l =>
    unfold incs
    rw [List.flatMap_cons, List.flatMap_cons, List.flatMap_cons, List.flatMap_cons, amt_append, amt_append, amt_append, amt_append]
    omega
  | trans _ _ h1 h2 => rw [h1, h2]
theorem pn_at (es : List Ent) (st sp : Num) (x : Str) : pn es st sp x = getD st x + amt (incs es (getD sp)) x := addAll_at _ _ _
theorem pn_perm {es es' : List Ent} (p : es'.Perm es) (st sp : Num) : pn es' st sp = pn es st sp := by
  funext x
  rw [pn_at, pn_at, amt_perm p]
/-- a dict comprehension over anything, by the turn's number -/
theorem dc_gen {Tb : List (Addr × Str)} {J : It} {n : Nat} {GG : Hp → Prop} {Y : Nat → Hp → V → Hp → Prop} (wk : Walk J n GG Y) {g : TG} {tt : TT} {tk tv : TE} {vs : List Nat} {σ : L2.St} {H1 : Hp} {D : Addr} {Qd : Hp → Prop} (F : Nat → Option (Str × Int)) (hD : H1 D = none) (hz : n ≤ 100000)
    (hG : ∀ H, Gr Tb H1 H → GG H) (hY : ∀ i H x H', Y i H x H' → Gr Tb H H')
    (turn : ∀ (i : Nat) (x : V) (H H' : Hp), i < n → Gr Tb H1 H' → Y i H x H' → ∀ (Rk : V → V → Hp → Prop) (Rs : Hp → Prop), (∀ q H4, F i = some q → Gr Tb H' H4 → Rk (.str q.1) (.int q.2) H4) → (∀ H4, F i = none → Gr Tb H' H4 → Rs H4) →
      g x (wipe σ vs) H' fun σ2 H2 => wipe σ2 vs = wipe σ vs ∧ tt σ2 H2 fun b H3 => if b = true then tk σ2 H3 fun y H4 => tv σ2 H4 fun z H5 => Rk y z H5 else Rs H3)
    (done : ∀ H, Gr Tb H1 H → H D = some (.dK (dS (putAll [] ((List.range n).filterMap F)))) → Qd H) :
    ∃ W : Nat → Nat → Hp → Prop, (∃ m, W 0 m (upd H1 D (.dK []))) ∧ ∀ i m H, W i m H →
      (J.stop i H ∧ Qd H) ∨ (J.go i H ∧ ∃ Nx : Hp → Prop, (∀ H', Nx H' → ∃ m', m' < m ∧ W (i + 1) m' H') ∧ ∀ x H', J.yld i H x H' → g x (wipe σ vs) H' fun σ2 H2 => wipe σ2 vs = wipe σ vs ∧ tt σ2 H2 fun b H3 =>
        if b = true then tk σ2 H3 fun y H4 => tv σ2 H4 fun z H5 => ∃ kvs k, y = kV k ∧ H5 D = some (.dK kvs) ∧ kvs.length < sizeLine ∧ Nx (upd H5 D (.dK (putK kvs k z))) else Nx H3) := by
  have h0 : Gr Tb H1 (upd H1 D (.dK [])) := Gr.new hD
  let P : Nat → Hp → Prop := fun i H => Gr Tb H1 H ∧ H D = some (.dK (dS (putAll [] ((List.range i).filterMap F))))
  refine ⟨fun i m H => m = n - i ∧ i ≤ n ∧ P i H, ⟨n, rfl, Nat.zero_le _, h0, upd_same⟩, ?_⟩
  rintro i m H ⟨rfl, hi, p⟩
  have q := hG H p.1
  by_cases hlt : i < n
  · refine .inr ⟨wk.goes i H hlt q, P (i + 1), fun H' p' => ⟨n - (i + 1), by omega, rfl, hlt, p'⟩, fun x H' y => ?_⟩
    have yy := wk.yields i H x H' hlt q y
    have g1 := p.1.trans (hY _ _ _ _ yy)
    have hd := (hY _ _ _ _ yy).at p.2 .dK
    have lle : (putAll [] ((List.range i).filterMap F)).length ≤ 100000 := by
      have h1 := putAll_len ((List.range i).filterMap F) []
      have h2 : ((List.range i).filterMap F).length ≤ i := Nat.le_trans (List.length_filterMap_le _ _) (by rw [List.length_range]; exact Nat.le_refl _)
      have h3 : ([] : Num).length = 0 := rfl
      omega
    refine turn i x H H' hlt g1 yy (fun y z H5 => ∃ kvs k, y = kV k ∧ H5 D = some (.dK kvs) ∧ kvs.length < sizeLine ∧ P (i + 1) (upd H5 D (.dK (putK kvs k z)))) (P (i + 1)) (fun q H4 e gr => ?_) (fun H4 e gr => ?_)
    · have hd4 := gr.at hd .dK
      refine ⟨_, Sum.inr q.1, rfl, hd4, ?_, Gr.putD hD (g1.trans gr) hd4, ?_⟩
      · rw [dS_len, sizeLine_eq]
        omega
      · rw [upd_same, List.range_succ, List.filterMap_append, putK_dS]
        unfold putAll
        rw [List.foldl_append, List.filterMap_cons, e]
        rfl
    · refine ⟨g1.trans gr, ?_⟩
      rw [List.range_succ, List.filterMap_append, List.filterMap_cons, e, gr.at hd .dK]
      simp
  · have e : i = n := by omega
    subst e
    exact .inl ⟨wk.stops H q, done H p.1 p.2⟩
theorem fm_range {α β : Type} (f : α → Option β) : ∀ l : List α, (List.range l.length).filterMap (fun i => l[i]?.bind f) = l.filterMap f := by
  intro l
  have key : ∀ n, n ≤ l.length → (List.range n).filterMap (fun i => l[i]?.bind f) = (l.take n).filterMap f := by
    intro n
    induction n with
    | zero => intro _; rfl
    | succ n ih =>
      intro h
      obtain ⟨x, hx⟩ : ∃ x, l[n]? = some x := ⟨_, List.getElem?_eq_getElem (by omega)⟩
      rw [List.range_succ, List.filterMap_append, ih (by omega), filterMap_take f l hx, List.filterMap_cons, hx]
      show _ ++ (match f x with | none => _ | some b => _) = _
      cases f x <;> rfl
  have := key l.length (Nat.le_refl _)
  rwa [List.take_length] at this
/-- the numbers that are not zero -/
def posN (es : List Ent) (f : Str → Int) : Num := numOf (es.filter fun e => decide (f e.name ≠ 0)) f
theorem posN_nodup {es : List Ent} {f : Str → Int} (h : (es.map (·.name)).Nodup) : ((posN es f).map (·.1)).Nodup := by
  unfold posN
  rw [numOf_names]
  exact h.sublist ((List.filter_sublist (l := es)).map _)
theorem getD_posN {es : List Ent} {f : Str → Int} {x : Str} (h : x ∈ es.map (·.name)) : getD (posN es f) x = f x := by
  by_cases q : f x = 0
  · rw [q]
    refine getD_none fun hm => ?_
    unfold posN at hm
    rw [numOf_names] at hm
    obtain ⟨e, he, rfl⟩ := List.mem_map.mp hm
    exact of_decide_eq_true (List.mem_filter.mp he).2 q
  · refine getD_numOf ?_
    obtain ⟨e, he, rfl⟩ := List.mem_map.mp h
    exact List.mem_map.mpr ⟨e, List.mem_filter.mpr ⟨he, decide_eq_true q⟩, rfl⟩
/-! ### what put does -/
theorem get?_cons (q : Str × Int) (d : Num) (x : Str) : get? (q :: d) x = if q.1 = x then some q.2 else get? d x := by
  unfold get?
  rw [List.find?_cons]
  by_cases h : q.1 = x
  · rw [if_pos h, show decide (q.1 = x) = true from decide_eq_true h]
    rfl
  · rw [if_neg h, show decide (q.1 = x) = false from decide_eq_false h]
theorem get?_app_new {d : Num} {x y : Str} {i : Int} : get? (d ++ [(x, i)]) y = match get? d y with | some j => some j | none => if x = y then some i else none := by
  induction d with
  | nil =>
    rw [List.nil_append, get?_cons]
    rfl
  | cons q d ih =>
    rw [List.cons_append, get?_cons, get?_cons, ih]
    by_cases h : q.1 = y
    · rw [if_pos h, if_pos h]
    · rw [if_neg h, if_neg h]
theorem get?_map {d : Num} {x y : Str} {i : Int} : get? (d.map fun q => if q.1 = x then (q.1, i) else q) y = if y = x ∧ y ∈ d.map (·.1) then some i else get? d y := by
  induction d with
  | nil =>
    rw [if_neg (fun z => by cases z.2)]
    rfl
  | cons q d ih =>
    rw [List.map_cons, get?_cons, get?_cons, ih, List.map_cons]
    by_cases h1 : q.1 = x
    · rw [if_pos h1]
      show (if q.1 = y then some i else _) = _
      by_cases h2 : q.1 = y
      · rw [if_pos h2, if_pos ⟨h2.symm.trans h1, by rw [h2]; exact List.mem_cons_self ..⟩]
      · rw [if_neg h2, if_neg h2]
        by_cases h3 : y = x
        · exact absurd (h1.trans h3.symm) h2
        · rw [if_neg fun z => h3 z.1, if_neg fun z => h3 z.1]
    · rw [if_neg h1]
      by_cases h2 : q.1 = y
      · rw [if_pos h2, if_pos h2, if_neg fun z => h1 (h2.trans z.1)]
      · rw [if_neg h2, if_neg h2]
        by_cases h3 : y = x ∧ y ∈ d.map (·.1)
        · rw [if_pos h3, if_pos ⟨h3.1, List.mem_cons_of_mem _ h3.2⟩]
        · rw [if_neg h3, if_neg fun z => h3 ⟨z.1, (List.mem_cons.mp z.2).resolve_left fun w => h2 w.symm⟩]
theorem mem_of_get? {d : Num} {x : Str} {i : Int} (h : get? d x = some i) : x ∈ d.map (·.1) := by
  cases q : decide (x ∈ d.map (·.1)) with
  | true => exact of_decide_eq_true q
  | false =>
    rw [get?_none (of_decide_eq_false q)] at h
    cases h
theorem get?_of_mem {d : Num} {x : Str} (h : x ∈ d.map (·.1)) : ∃ i, get? d x = some i := by
  induction d with
  | nil => cases h
  | cons q d ih =>
    rw [get?_cons]
    by_cases e : q.1 = x
    · exact ⟨_, if_pos e⟩
    · rw [if_neg e]
      rw [List.map_cons] at h
      exact ih ((List.mem_cons.mp h).resolve_left fun z => e z.symm)
theorem any_mem {d : Num} {x : Str} : (d.any fun q => decide (q.1 = x)) = true ↔ x ∈ d.map (·.1) := by
  rw [List.any_eq_true]
  constructor
  · rintro ⟨q, hq, e⟩
    exact List.mem_map.mpr ⟨q, hq, of_decide_eq_true e⟩
  · intro h
    obtain ⟨q, hq, e⟩ := List.mem_map.mp h
    exact ⟨q, hq, decide_eq_true e⟩
theorem get?_put (d : Num) (x y : Str) (i : Int) : get? (put d x i) y = if y = x then some i else get? d y := by
  by_cases h : x ∈ d.map (·.1)
  · unfold put
    rw [if_pos (any_mem.mpr h), get?_map]
    by_cases e : y = x
    · rw [if_pos e, if_pos ⟨e, e ▸ h⟩]
    · rw [if_neg e, if_neg fun z => e z.1]
  · rw [put_new' h, get?_app_new]
    by_cases e : y = x
    · rw [if_pos e, e, get?_none h]
      show (if x = x then some i else none) = _
      rw [if_pos rfl]
    · rw [if_neg e]
      cases get? d y with
      | some j => rfl
      | none => exact if_neg fun z => e z.symm
theorem getD_put (d : Num) (x y : Str) (i : Int) : getD (put d x i) y = if y = x then i else getD d y := by
  unfold getD
  rw [get?_put]
  split <;> rfl
theorem put_keys (d : Num) (x y : Str) (i : Int) : y ∈ (put d x i).map (·.1) ↔ y = x ∨ y ∈ d.map (·.1) := by
  constructor
  · intro h
    obtain ⟨j, hj⟩ := get?_of_mem h
    rw [get?_put] at hj
    by_cases e : y = x
    · exact .inl e
    · rw [if_neg e] at hj
      exact .inr (mem_of_get? hj)
  · intro h
    by_cases e : y = x
    · exact mem_of_get? (i := i) (by rw [get?_put, if_pos e])
    · obtain ⟨j, hj⟩ := get?_of_mem (h.resolve_left e)
      exact mem_of_get? (i := j) (by rw [get?_put, if_neg e, hj])
theorem put_nodup {d : Num} {x : Str} {i : Int} (h : (d.map (·.1)).Nodup) : ((put d x i).map (·.1)).Nodup := by
  by_cases q : x ∈ d.map (·.1)
  · unfold put
    rw [if_pos (any_mem.mpr q), List.map_map]
    have : ((fun q : Str × Int => q.1) ∘ fun q => if q.1 = x then (q.1, i) else q) = fun q => q.1 := by
      funext q
      show (if q.1 = x then (q.1, i) else q).1 = q.1
      split <;> rfl
    rw [this]
    exact h
  · rw [put_new' q, List.map_append]
    refine List.nodup_append.mpr ⟨h, by simp, fun a ha b hb e => ?_⟩
    have hb2 : b = x := List.mem_singleton.mp hb
    rw [e, hb2] at ha
    exact q ha
theorem getD_mem {d : Num} (h : (d.map (·.1)).Nodup) {q : Str × Int} (hq : q ∈ d) : getD d q.1 = q.2 := by
  unfold getD
  induction d with
  | nil => cases hq
  | cons z d ih =>
    rw [List.map_cons, List.nodup_cons] at h
    rw [get?_cons]
    rcases List.mem_cons.mp hq with e | hq
    · rw [if_pos (by rw [e]), e]
      rfl
    · rw [if_neg fun e => h.1 (List.mem_map.mpr ⟨q, hq, e.symm⟩)]
      exact ih h.2 hq
theorem get?_mem {d : Num} (h : (d.map (·.1)).Nodup) {q : Str × Int} (hq : q ∈ d) : get? d q.1 = some q.2 := by
  obtain ⟨i, hi⟩ := get?_of_mem (List.mem_map.mpr ⟨q, hq, rfl⟩ : q.1 ∈ d.map (·.1))
  have := getD_mem h hq
  unfold getD at this
  rw [hi] at this ⊢
  exact congrArg some this
/-- two dicts of numbers that are not zero, alike at each name -/
theorem num_eq {c d : Num} (hc : (c.map (·.1)).Nodup) (hd : (d.map (·.1)).Nodup) (zc : ∀ q ∈ c, q.2 ≠ 0) (zd : ∀ q ∈ d, q.2 ≠ 0) (e : ∀ x, getD c x = getD d x) : c.length = d.length ∧ ∀ q ∈ c, get? d q.1 = some q.2 := by
  have key : ∀ {c d : Num}, (c.map (·.1)).Nodup → (∀ q ∈ c, q.2 ≠ 0) → (∀ x, getD c x = getD d x) → ∀ x ∈ c.map (·.1), x ∈ d.map (·.1) := fun {c d} hc zc e x hx => by
    obtain ⟨q, hq, rfl⟩ := List.mem_map.mp hx
    cases z : decide (q.1 ∈ d.map (·.1)) with
    | true => exact of_decide_eq_true z
    | false =>
      have h1 := e q.1
      rw [getD_mem hc hq, getD_none (of_decide_eq_false z)] at h1
      exact absurd h1 (zc q hq)
  have k1 := key hc zc e
  have k2 := key hd zd fun x => (e x).symm
  refine ⟨?_, fun q hq => ?_⟩
  · have p : (c.map (·.1)).Perm (d.map (·.1)) := (List.perm_ext_iff_of_nodup hc hd).mpr fun x => ⟨k1 x, k2 x⟩
    have := p.length_eq
    rwa [List.length_map, List.length_map] at this
  · obtain ⟨i, hi⟩ := get?_of_mem (k1 q.1 (List.mem_map.mpr ⟨q, hq, rfl⟩))
    have h1 := e q.1
    rw [getD_mem hc hq] at h1
    unfold getD at h1
    rw [hi] at h1 ⊢
    exact congrArg some h1.symm
/-- d1 != d2, alike -/
theorem rd_neD {H : Hp} {a b : Addr} {c d : Num} {Q : VK} (ha : H a = some (.dK (dS c))) (hb : H b = some (.dK (dS d))) (hl : c.length = d.length) (h : ∀ q ∈ c, get? d q.1 = some q.2) (q : Q (.bl false) H) : rNeDA (.ref a) (.ref b) H Q :=
  ⟨a, b, _, _, rfl, rfl, ha, hb, by rw [dS_len, dS_len]; exact hl, fun p hp => by
    unfold dS at hp
    obtain ⟨z, hz, rfl⟩ := List.mem_map.mp hp
    refine ⟨?_, rfl⟩
    show valV (dS d) (Sum.inr z.1) = some (V.int z.2)
    rw [valV_dS, h z hz]
    rfl, q⟩
/-! ### dict([(name, number) ..]), for name in d -/
theorem mergeK_dS (l : Num) : ∀ d : Num, mergeK (dS d) (dS l) = dS (putAll d l) := by
  induction l with
  | nil => intro d; rfl
  | cons q l ih =>
    intro d
    show mergeK (putK (dS d) (Sum.inr q.1) (.int q.2)) (dS l) = dS (putAll (put d q.1 q.2) l)
    rw [putK_dS, ih]
theorem merge_new {l : Num} (h : (l.map (·.1)).Nodup) : mergeK [] (dS l) = dS l := by
  have := mergeK_dS l []
  rw [putAll_new l [] h] at this
  exact this
/-- a row of a name and its number -/
def PRow (H : Hp) (val : Str → Int) (x y : V) : Prop := ∃ t n, x = .str n ∧ y = .ref t ∧ H t = some (.tup [.str n, .int (val n)])
theorem pairs_dict {K : PySem.W.Frag} {H : Hp} {val : Str → Int} : ∀ {ns : List Str} {ys : List V}, Paired (PRow H val) (ns.map V.str) ys → ∃ ps : List Addr, ys = ps.map V.ref ∧ Paired (fun p kv => SqT K H p [kV kv.1, kv.2]) ps (dS (ns.map fun n => (n, val n)))
  | [], _, .nil => ⟨[], rfl, .nil⟩
  | n :: ns, _, .cons ⟨t, n', e, e2, h⟩ p => by
    cases e
    subst e2
    obtain ⟨ps, h1, h2⟩ := pairs_dict p
    exact ⟨t :: ps, by rw [h1]; rfl, .cons (SqT.of h) h2⟩
theorem walk_keysS {d : Addr} {o : Obj} {n : Num} : Walk (Itk d o (dS n)) n.length (fun H => H d = some (.frz o (.dK (dS n)))) (YAt ((n.map (·.1)).map V.str)) := by
  have w := walk_keys (d := d) (o := o) (kvs := dS n)
  rw [dS_len] at w
  refine w.mono (fun _ h => h) fun i H x H' hi _ y => ?_
  obtain ⟨h1, k, v, h2, h3⟩ := y
  refine ⟨h1, ?_⟩
  unfold dS at h2
  rw [List.getElem?_map] at h2
  cases hq : n[i]? with
  | none => rw [hq] at h2; cases h2
  | some q =>
    rw [hq] at h2
    cases h2
    rw [List.getElem?_map, List.getElem?_map, hq, h3]
    rfl
def stockO (H : Hp) (d : Num) (v : V) : Option (Str × Int) := match itemAt H 0 v with
  | some (.str n) => some (n, getD d n)
  | _ => none
theorem stockO_at {H : Hp} {d : Num} {v : V} {e : Ent} (h : EntAt H v e) : stockO H d v = some (e.name, getD d e.name) := by
  obtain ⟨t, l, rfl, ht, _⟩ := h
  unfold stockO
  rw [itemAt_tup ht]
  rfl
/-- {name: stock.get(name, 0) for name, weight, parts in entries} -/
theorem dc_stock {Tb : List (Addr × Str)} {K : PySem.W.Frag} {a b : Addr} {xs : List V} {es : List Ent} {st : Num} {i j k l : Nat} {σ : L2.St} {H1 : Hp} {D : Addr} {Qd : Hp → Prop} (ha : SqL K H1 a xs) (hc : CatAt H1 xs es) (hb : H1 b = some (.dK (dS st))) (hnd : (es.map (·.name)).Nodup) (hz : es.length ≤ 100000) (hD : H1 D = none)
    (hw : ∀ n w p, wipe ((((wipe σ [i, j, k]).set i n).set j w).set k p) [i, j, k] = wipe σ [i, j, k]) (h1 : ∀ n w p, ((((wipe σ [i, j, k]).set i n).set j w).set k p)[i]? = some n) (h2 : ∀ n w p, ((((wipe σ [i, j, k]).set i n).set j w).set k p)[l]? = some (some (.ref b)))
    (done : ∀ H, Gr Tb H1 H → H D = some (.dK (dS (numOf es (getD st)))) → Qd H) :
    ∃ W : Nat → Nat → Hp → Prop, (∃ m, W 0 m (upd H1 D (.dK []))) ∧ ∀ r m H, W r m H →
      ((Itl K a).stop r H ∧ Qd H) ∨ ((Itl K a).go r H ∧ ∃ Nx : Hp → Prop, (∀ H', Nx H' → ∃ m', m' < m ∧ W (r + 1) m' H') ∧ ∀ x H', (Itl K a).yld r H x H' → (gTup K 3 (gCons (gName i) (gCons (gName j) (gCons (gName k) gNil)))) x (wipe σ [i, j, k]) H' fun σ2 H2 => wipe σ2 [i, j, k] = wipe σ [i, j, k] ∧ tYes σ2 H2 fun b H3 =>
        if b = true then tVar i σ2 H3 fun y H4 => (tDGet2 (tVar l) (tVar i) (tC (.int 0))) σ2 H4 fun z H5 => ∃ kvs k, y = kV k ∧ H5 D = some (.dK kvs) ∧ kvs.length < sizeLine ∧ Nx (upd H5 D (.dK (putK kvs k z))) else Nx H3) := by
  have hl := Paired.len hc
  refine dc_fm (Tb := Tb) (xs := xs) walk_list rfl (stockO H1 st) hD (by omega) (fun H' g => g.ext_seq ha) (fun j' v H' hv g Rk Rs hk hs => ?_) fun H' g hD' => ?_
  · obtain ⟨e, he, hev⟩ := Paired.at hc hv
    have hco := stockO_at (d := st) hev
    obtain ⟨t, lp, rfl, ht, hlp⟩ := hev
    have hb' := g.at hb .dK
    refine gtup3 (g.at ht .tup) ⟨hw _ _ _, _, h1 _ _ _, _, h2 _ _ _, b, rfl, IsD.num hb', _, h1 _ _ _, _, dgetO hb' e.name, ?_⟩
    rw [getO]
    exact hk (e.name, getD st e.name) _ hco (Gr.refl _)
  · have e : xs.filterMap (stockO H1 st) = numOf es (getD st) := fm_paired (fun v e h => stockO_at h) hc
    rw [e, putAll_new _ _ (by rw [List.nil_append, numOf_names]; exact hnd), List.nil_append] at hD'
    exact done H' g hD'
end Sk
/-! x = {..: .. for ..}, x a local name: the comprehension stores its dict itself -/
namespace Sk
open PySem PySem.Spec PyProof.Rows L2
section
variable {X : Cx}
theorem swD_true {kx vx : Expr} {gs : List Comprehension} {scope : Scope} {pos py : Pos} {y : Str} {l : Nat} {env : Env} (hk : env.scope.kind = .function) (hy : env.scope.names.lookup y = some .local) (hl : (py.line == pos.line) = true)
    (ha : (scope.names.any fun (n, k) => n == y && (k == .local || k == .cell)) = false) : swapsWith (.DictComp kx vx gs scope pos) (some (.Name y py)) l env = pure true := by
  have e1 : env.kindOf y = some .local := hy
  have e2 : env.blockKind = .function := by
    unfold Env.blockKind
    rw [hk]
    rfl
  unfold swapsWith
  simp only [e1, e2, ha, Expr.pos, hl] <;> rfl
theorem ps_setDc {i : Nat} {y : Str} {py : Pos} {kx vx tg iter : Expr} {ifs : List Expr} {scope : Scope} {own : List (Str × Nat)} {pos spos : Pos} {wi : TI} {g : TG} {tt : TT} {tk tv : TE} (hc : X.calm = true) (hN : X.N.Nodup) (hy : X.N[i]? = some y)
    (hyl : X.env.scope.names.lookup y = some .local) (hsw : swapsWith (.DictComp kx vx [⟨tg, iter, ifs, 0⟩] scope pos) (some (.Name y py)) spos.line X.env = pure true) (hi : PI X tg iter wi) (ok : BlkOk X.N X.env.scope scope own)
    (hg : ∀ s H C cl fp, PG (X.blk s H scope (compEnvC scope cl C X.env) fp) tg g) (ht : ∀ s H C cl fp, PTs (X.blk s H scope (compEnvC scope cl C X.env) fp) ifs tt)
    (hk : ∀ s H C cl fp, PE (X.blk s H scope (compEnvC scope cl C X.env) fp) kx tk) (he : ∀ s H C cl fp, PE (X.blk s H scope (compEnvC scope cl C X.env) fp) vx tv) (hs : ∀ x, foldedSetIterable iter X.env x = pure x := by intro _; rfl) :
    PS X (.Assign [.Name y py] (.DictComp kx vx [⟨tg, iter, ifs, 0⟩] scope pos) spos) (tAsg (tDc wi g tt tk tv (own.map (·.2))) (gName i)) := by
  refine ⟨fun pins s σ H D I h0 => ?_⟩
  rw [exec_Assign_Name_used _ _ _ _ hsw]
  have h : tDc wi g tt tk tv (own.map (·.2)) σ H (fun x H1 => gName i x σ H1 D.nx) := h0
  refine wpAny_bind (wpAny_standAt (wpAny_bind ?_))
  show wpAny _ X.A (do
    let _ ← comprehension (.DictComp kx vx [⟨tg, iter, ifs, 0⟩] scope pos) scope X.env (firstIterPos [⟨tg, iter, ifs, 0⟩] pos) newDict false (eval iter X.env) (some (assign (.Name y py) X.env))) _ _ s
  refine wpAny_bind (thn (dc_core (Qf := fun _ s' => SP X pins D .next s') hc hN I hi ok hg ht hk he hs h fun L C s' m H' J q hn f => ?_) fun _ s' hq => wpAny_pure (wpAny_pure hq))
  obtain ⟨f0, f1, f2, f3, f4, f5⟩ := f
  show wpAny _ _ (assign (.Name y py) X.env (.ref L)) _ _ _
  refine wpAny_assign_Name (store_ok2 (v := V.ref L) J hN hy (.inl hyl) rfl (fun s2 J2 ⟨a, sb, ha⟩ => ?_) (.inr hyl))
  have ne : C ≠ a := fun e => by
    rcases ha with z | z
    · exact f1 (e.trans z)
    · exact f4 y a z e.symm
  exact ⟨m, hn.sameBut sb ne, fun h3 sb3 => ⟨_, H', J2.turned (t' := s2.toks) (fun b o hb e => (sb3.2 b hb).trans e) f0 f1 f3 f4 f5, q⟩⟩
end
end Sk
/-! sum(d.values()) -/
namespace Sk
open PySem PySem.Spec PyProof.Rows L2
section
variable {X : Cx} {o : Expr} {p pos apos mpos : Pos} {td : TE}
/-- sum(o.values()), a dict whose values are ints -/
def tSumVals (td : TE) : TE := fun σ H Q => td σ H fun x H1 => ∃ (a : Addr) (kvs : List (Key × V)) (is : List Int), x = V.ref a ∧ H1 a = some (.dK kvs) ∧ kvs.map (·.2) = is.map V.int ∧ Q (.int is.sum) H1
theorem pe_sumVals (hc : X.calm = true) (hg : Gl X "sum") (hm : X.mg "sum" = none) (hd : PE X o td) (hbase : attributeBase o "values" X.env (eval o X.env) = eval o X.env := by rfl) (hline : (apos.endLine == mpos.line) = true := by rfl)
    (hse : starEach [Expr.Call (.Attribute o "values" apos) [] [] mpos] X.env = [(false, eval (Expr.Call (.Attribute o "values" apos) [] [] mpos) X.env)] := by rfl) :
    PE X (.Call (.Name "sum" p) [.Call (.Attribute o "values" apos) [] [] mpos] [] pos) (tSumVals td) := by
  refine ⟨fun pins s σ H Q I h => ?_⟩
  refine wpAny_Call_Name_kw (ld_blt I hg hm (u := .builtin "sum") (by first | rfl | decide +kernel) ?_ (by decide +kernel) (by decide +kernel))
  rw [hse]
  refine PySem.callWith_builtin1 (wpAny_Call_method0_late hbase hline (thn (hd.run pins s σ H _ I h) fun v s1 ⟨x, H1, I1, r1, a, kvs, is, ex, ha, hv, q⟩ => ?_))
  subst ex
  obtain rfl : v = Value.ref a := r1
  obtain ⟨_, hsys, vs, rel, dof⟩ := dk_of I1.hok ha
  obtain ⟨ep, dat⟩ := dof.dictAt
  obtain ⟨ob, es, ho, ex, hdat, hko, hpr, hnd⟩ := id dat
  refine ⟨"dict", "dict.values", F.plainAttrs_dict, F.slot_dict_values, F.type_dict_values, ⟨ob, ho, ex.1⟩, fun b e => ?_, Calls.callWith_builtin rfl (PySem.evalArgs_none ?_)⟩
  · cases e
    exact ⟨ob, ho, ex.2.1⟩
  refine call_meetsIn F.slot_dict_values ⟨ob, ho, ex.1⟩ F.entry_dict_values (F.args_dict_values_1 _) (meets_dict_values (mixKind X.prog X.w) a hsys) ⟨⟨vs, dof⟩, ?_⟩
  have up : ∀ b u, s1.heap.get? b = some u → (s1.heap.push { cls := .type "dict_values", data := .fields #[.ref a] }).get? b = some u := fun b u e => Heap.get?_push_of_some _ e
  have datV := dat.keep up
  have lv : vs.length = is.length := by
    have e1 := congrArg List.length hv
    rw [List.length_map, List.length_map] at e1
    rw [← e1, ← KV.length rel]
  have vals : ∀ (i : Nat) (u : Value), (∃ k, vs[i]? = some (k, u)) → ∃ t, u = Value.int (is.getD i 0) t := by
    rintro i u ⟨k, hk⟩
    obtain ⟨x, h1, h2⟩ := KV.at' rel hk
    have e1 : (is.map V.int)[i]? = some x := by
      rw [← hv, List.getElem?_map, h1]
      rfl
    rw [List.getElem?_map] at e1
    obtain ⟨j, hj, rfl⟩ := Option.map_eq_some_iff.mp e1
    obtain ⟨t, e3⟩ := h2
    exact ⟨t, by rw [e3, List.getD_eq_getElem?_getD, hj]; rfl⟩
  have hlt : a < s1.heap.objs.size := Heap.lt_size ho
  have sz : (s1.heap.push { cls := .type "dict_values", data := .fields #[.ref a] }).objs.size = s1.heap.objs.size + 1 := Heap.size_push _ _
  refine call_sum_walkAnyS (wpAny_pyIter_values (v := s1.heap.objs.size) (d := a) ⟨_, Heap.get?_push_size _ rfl, rfl, rfl⟩ datV ?_)
  refine ⟨_, _, _, _, _, _, _, fun i => is.getD i 0, rfl, (Walks.dictValues (knd := mixKind X.prog X.w) (A := X.A.in1) (I.ok.hd hc) _ a (by rw [sz]; exact Nat.ne_of_lt (Nat.lt_succ_of_lt hlt)) vs ep).toS,
    ⟨⟨_, Heap.get?_push_size _ rfl, rfl, rfl⟩, datV.keep fun b u e => Heap.get?_push_of_some _ e⟩, fun b hb => ?_, vals, fun s' t' hm => ?_⟩
  · show b < ((s1.heap.push _).push _).objs.size
    rw [Heap.size_push, Heap.size_push]
    rw [sz] at hb
    rcases List.mem_cons.mp hb with e | hb
    · rw [e]
      exact Nat.lt_succ_self _
    · rw [List.mem_singleton.mp hb]
      exact Nat.lt_succ_of_lt (Nat.lt_succ_of_lt hlt)
  · have e : preSum (fun i => is.getD i 0) vs.length = is.sum := by
      rw [lv]
      clear lv vals q hv
      have key : ∀ n, n ≤ is.length → preSum (fun i => is.getD i 0) n = (is.take n).sum := by
        intro n
        induction n with
        | zero => intro _; rfl
        | succ n ih =>
          intro hn
          show preSum _ n + is.getD n 0 = _
          rw [ih (by omega), List.take_add_one, List.sum_append, List.getD_eq_getElem?_getD, List.getElem?_eq_getElem (by omega)]
          simp
      rw [key _ (Nat.le_refl _), List.take_length]
    rw [e, Moved.eq_with hm]
    refine ⟨.int is.sum, H1, I1.kept (t' := s'.toks) fun b u e => hm.heap b u (fun hmem => ?_) (Heap.get?_push_of_some _ (up b u e)), ⟨t', rfl⟩, q⟩
    have e1 := List.mem_singleton.mp hmem
    have e2 := Heap.lt_size e
    rw [e1, sz] at e2
    exact absurd e2 (Nat.not_lt.mpr (Nat.le_succ _))
end
end Sk
/-! rules whose reading names the written part K, K told apart (within a comprehension) -/
namespace Sk
open PySem PySem.Spec PyProof.Rows L2
section
variable {X : Cx} {K : PySem.W.Frag}
theorem ixL (e : X.K = K) : IxR X (rIxL K) := by subst e; exact ix_list
theorem ixT (e : X.K = K) : IxR X (rIxT K) := by subst e; exact ix_tup
/-- an item of a list or of a tuple -/
def rIxA (K : PySem.W.Frag) : R2 := fun x y H Q => ∃ p xs i v, x = .ref p ∧ y = .int i ∧ (SqL K H p xs ∨ SqT K H p xs) ∧ atI xs i = some v ∧ Q v H
theorem ixA (e : X.K = K) : IxR X (rIxA K) := by
  intro va sl pins s σ H x y v u Q I rx ry h
  obtain ⟨p, xs, i, z, h1, h2, h3 | h3, h4, h5⟩ := h
  · exact ixL e va sl pins s σ H x y v u Q I rx ry ⟨p, xs, i, z, h1, h2, h3, h4, h5⟩
  · exact ixT e va sl pins s σ H x y v u Q I rx ry ⟨p, xs, i, z, h1, h2, h3, h4, h5⟩
theorem slL (e : X.K = K) : SlR X (rSlL K) := by subst e; exact sl_list
theorem slT (e : X.K = K) : SlR X (rSlT K) := by subst e; exact sl_tup
theorem opIn (e : X.K = K) : OpR X (compareOp .In) (rIn K false) := by subst e; exact op_in_seq
theorem opNotIn (e : X.K = K) : OpR X (compareOp .NotIn) (rIn K true) := by subst e; exact op_notIn_seq
theorem opEqD (e : X.K = K) (hu : X.A.units + 64 < cLine) : OpR X (compareOp .Eq) (rEqD K) := by subst e; exact op_eqD hu
theorem opNeD (e : X.K = K) (hu : X.A.units + 64 < cLine) : OpR X (compareOp .NotEq) (rNeD K) := by subst e; exact op_neD hu
theorem opEqNil (e : X.K = K) (hu : X.A.units + 64 < cLine) : OpR X (compareOp .Eq) (rNil K false) := by subst e; exact op_eqNil hu
theorem opNeNil (e : X.K = K) (hu : X.A.units + 64 < cLine) : OpR X (compareOp .NotEq) (rNil K true) := by subst e; exact op_neNil hu
/-- len of a list -/
def rLenL (K : PySem.W.Frag) : List V → Hp → VK → Prop := fun xs H Q => ∃ p ys, xs = [.ref p] ∧ (SqL K H p ys ∨ SqT K H p ys) ∧ Q (.int (List.length ys : Nat)) H
theorem lenS (e : X.K = K) : CallR X (.builtin "len") (rLenL K) := by subst e; exact call_len_seq
def rListOf (K : PySem.W.Frag) : List V → Hp → VK → Prop := fun xs H Q => ∃ p ys, xs = [.ref p] ∧ (SqL K H p ys ∨ SqT K H p ys) ∧ ∀ l, H l = none → Q (.ref l) (upd H l (.lst ys))
theorem listOf (e : X.K = K) : CallR X (.type "list") (rListOf K) := by subst e; exact call_list_of
theorem crSum (e : X.K = K) (hc : X.calm = true) : CallR X (.builtin "sum") (rSum K) := by subst e; exact cr_sum hc
theorem crMax (e : X.K = K) (hc : X.calm = true) : CallR X (.builtin "max") (rMax K) := by subst e; exact cr_max hc
theorem crMin (e : X.K = K) (hc : X.calm = true) : CallR X (.builtin "min") (rMin K) := by subst e; exact cr_min hc
theorem crAll (e : X.K = K) (hc : X.calm = true) : CallR X (.builtin "all") (rAll K) := by subst e; exact cr_all hc
theorem crAny (e : X.K = K) (hc : X.calm = true) : CallR X (.builtin "any") (rAny K) := by subst e; exact cr_any hc
theorem crSortedS (e : X.K = K) : CallR X (.builtin "sorted") (rSortedS K) := by subst e; exact cr_sortedS
theorem crSortedI (e : X.K = K) : CallR X (.builtin "sorted") (rSortedI K) := by subst e; exact cr_sortedI
theorem crSortedT (e : X.K = K) : CallR X (.builtin "sorted") (rSortedT K) := by subst e; exact cr_sortedT
def rDictP (K : PySem.W.Frag) : List V → Hp → VK → Prop := fun xs H Q => ∃ (a : Addr) (ps : List Addr) (kvs : List (Key × V)), xs = [.ref a] ∧ SqL K H a (ps.map V.ref) ∧ Paired (fun p kv => SqT K H p [kV kv.1, kv.2]) ps kvs ∧
    ∀ p, H p = none → Q (.ref p) (upd H p (.dK (mergeK [] kvs)))
theorem dictP (e : X.K = K) (hc : X.calm = true) : CallR X (.type "dict") (rDictP K) := by subst e; exact call_dictP hc
theorem isiR (e : X.K = K) : CallR X (.builtin "isinstance") (rIsi K) := by subst e; exact call_isi
variable {tg l o e1 : Expr} {es : List Expr} {tl to te : TE} {ta : TA} {p pos apos cpos tpos : Pos} {elts : List Expr} {kk : Nat} {name : Str} {T id : String} {r : V → List V → Hp → VK → Prop}
theorem piL (e : X.K = K) (hl : PE X l tl) : PI X tg l (iList K tl) := by subst e; exact pi_list hl
theorem piT (e : X.K = K) (hl : PE X l tl) : PI X tg l (iTup K tl) := by subst e; exact pi_tup hl
theorem piEnum (e : X.K = K) (hg : Gl X "enumerate") (hm : X.mg "enumerate" = none) (ha : PA X [l] ta) (hs : starEach [l] X.env = [(false, eval l X.env)] := by rfl) : PI X (.Tuple elts kk tpos) (.Call (.Name "enumerate" p) [l] [] pos) (iEnum K ta) := by
  subst e
  exact pi_enum hg hm ha hs
theorem piZip (e : X.K = K) (hg : Gl X "zip") (hm : X.mg "zip" = none) (ha : PA X [l, e1] ta) (hs : starEach [l, e1] X.env = (false, eval l X.env) :: starEach [e1] X.env := by rfl) (hpl : (backTo pos (starEach [e1] X.env)).any (·.1) = false := by rfl) :
    PI X (.Tuple elts kk tpos) (.Call (.Name "zip" p) [l, e1] [] pos) (iZip K ta) := by
  subst e
  exact pi_zip hg hm ha hs hpl
theorem piRev (e : X.K = K) (hg : Gl X "reversed") (hm : X.mg "reversed" = none) (ha : PA X [l] ta) (hs : starEach [l] X.env = [(false, eval l X.env)] := by rfl) : PI X tg (.Call (.Name "reversed" p) [l] [] pos) (iRev K ta) := by
  subst e
  exact pi_reversed hg hm ha hs
theorem peBm0 (e : X.K = K) (pa : PlainAttrs T) (slot : Slot T name id) (hty : typeOf (.builtin id) = pure (.type "method_descriptor")) (hm : MtR X id r) (ho : PE X o to)
    (hbase : attributeBase o name X.env (eval o X.env) = eval o X.env := by rfl) (hline : (apos.endLine == cpos.line) = true := by rfl) : PE X (.Call (.Attribute o name apos) [] [] cpos) (tBM0 K T r to) := by
  subst e
  exact pe_bm0 pa slot hty hm ho hbase hline
theorem peBm (e : X.K = K) (pa : PlainAttrs T) (slot : Slot T name id) (hty : typeOf (.builtin id) = pure (.type "method_descriptor")) (hm : MtR X id r) (ho : PE X o to) (ha : PA X (e1 :: es) ta)
    (hbase : attributeBase o name X.env (eval o X.env) = eval o X.env := by rfl)
    (hfew : ((backTo cpos (starEach (e1 :: es) X.env)).all (fun x => !x.1) && (backToKw cpos (keywordEach [] X.env)).all (fun x => x.1.isSome)
      && decide ((e1 :: es).length + ([] : List Keyword).length + (if ([] : List Keyword).isEmpty then 0 else 1) < 30)) = true := by rfl)
    (hline : (apos.endLine == cpos.line) = true := by rfl) (hs : starEach (e1 :: es) X.env = (false, eval e1 X.env) :: starEach es X.env := by rfl) (hplain : (backTo cpos (starEach es X.env)).any (·.1) = false := by rfl) :
    PE X (.Call (.Attribute o name apos) (e1 :: es) [] cpos) (tBM K T r to ta) := by
  subst e
  exact pe_bm pa slot hty hm ho ha hbase hfew hline hs hplain
end
end Sk
/-! repr of lists and tuples, no repr under way; nested data -/
namespace Sk
open PySem PySem.Spec PyProof.Rows L2
mutual
theorem Dp.noDict {K : PySem.W.Frag} {H : Hp} : ∀ {d : PyData} {v : V}, Dp K H v d → d.hasDict = false
  | .none, _, _ => rfl
  | .bool _, _, _ => rfl
  | .int _, _, _ => rfl
  | .str _, _, _ => rfl
  | .list ds, _, .lst _ h => by
    have := DpAll.noDict h
    simpa [PyData.hasDict] using this
  | .tuple ds, _, .tup _ h => by
    have := DpAll.noDict h
    simpa [PyData.hasDict] using this
  | .dict _, _, h => by cases h
theorem DpAll.noDict {K : PySem.W.Frag} {H : Hp} : ∀ {ds : List PyData} {vs : List V}, DpAll K H vs ds → PyData.hasDictAll ds = false
  | [], _, _ => by simp [PyData.hasDictAll]
  | d :: ds, _, .cons a t => by
    have h1 := Dp.noDict a
    have h2 := DpAll.noDict t
    simp [PyData.hasDictAll, h1, h2]
end
def rRepr (K : PySem.W.Frag) : List V → Hp → VK → Prop := fun xs H Q => ∃ (a : Addr) (d : PyData), xs = [.ref a] ∧ Dp K H (.ref a) d ∧ d.showable = true ∧ d.shown.length ≤ sizeLine ∧ d.depth ≤ 60 ∧ Q (.str d.shown) H
theorem crRepr {X : Cx} {K : PySem.W.Frag} (e : X.K = K) (hg : X.A.guards = some []) (hu : X.A.units + 64 < cLine) : CallR X (.builtin "repr") (rRepr K) := by
  subst e
  intro pins s σ H xs us Q I r h
  obtain ⟨a, d, rfl, hd, hs, hz, hdp, q⟩ := h
  obtain ⟨u, rfl, ru⟩ := vals1 r
  obtain ⟨as, rr⟩ := Dp.reads I d _ u hd ru
  obtain rfl : u = Value.ref a := ru
  exact PySem.repr_of_reads' rr hs (fun z => by rw [Dp.noDict hd] at z; cases z) hg (by omega) (fun b o e => e) (fun h' u tk k => ⟨.str d.shown, H, I.kept k, ⟨u, rfl⟩, q⟩) hz
/-! ### data -/
def tyName : PyData → String
  | .none => "NoneType" | .bool _ => "bool" | .int _ => "int" | .str _ => "str" | .list _ => "list" | .tuple _ => "tuple" | .dict _ => "dict"
theorem Dp.tyx {K : PySem.W.Frag} {H : Hp} {x : V} {d : PyData} (h : Dp K H x d) : TyX K H x (.type (tyName d)) := by
  cases h with
  | non => exact .base .non
  | bl b => exact .base (.bl b)
  | int i => exact .base (.int i)
  | str x => exact .base (.str x)
  | lst h _ =>
    rcases h with (h | ⟨o, h⟩) | ⟨o, its, n, h1, h2, _⟩
    · exact .base (.lst h)
    · exact .base (.frz h)
    · exact .kList h1 h2
  | tup h _ =>
    rcases h with (h | ⟨o, h⟩) | ⟨o, its, n, h1, h2, _⟩
    · exact .base (.tup h)
    · exact .fTuple h
    · exact .kTuple h1 h2
theorem rd_isi {K : PySem.W.Frag} {H : Hp} {x : V} {d : PyData} (T : String) (h : Dp K H x d) {b : Bool} (hb : kitB (tyName d) T = some b) {Q : VK} (q : Q (.bl b) H) : rIsi K [x, .ty T] H Q := ⟨x, .ty T, _, .type T, b, rfl, .ty T, Dp.tyx h, kit_ty hb, q⟩
theorem Gr.ext_tup {T : List (Addr × Str)} {K : PySem.W.Frag} {H H' : Hp} {a : Addr} {xs : List V} (g : Gr T H H') (h : SqT K H a xs) : SqT K H' a xs := by
  rcases h with (z | ⟨o, z⟩) | z
  · exact .inl (.inl (g.ext _ _ z (fun ps e => by cases e)))
  · exact .inl (.inr ⟨o, g.ext _ _ z (fun ps e => by cases e)⟩)
  · exact .inr z
mutual
theorem Dp.gr {T : List (Addr × Str)} {K : PySem.W.Frag} {H H' : Hp} (g : Gr T H H') : ∀ {d : PyData} {v : V}, Dp K H v d → Dp K H' v d
  | .none, _, .non => .non
  | .bool _, _, .bl b => .bl b
  | .int _, _, .int i => .int i
  | .str _, _, .str x => .str x
  | .list ds, _, .lst h a => .lst (g.ext_seq h) (DpAll.gr g a)
  | .tuple ds, _, .tup h a => .tup (g.ext_tup h) (DpAll.gr g a)
  | .dict _, _, h => by cases h
theorem DpAll.gr {T : List (Addr × Str)} {K : PySem.W.Frag} {H H' : Hp} (g : Gr T H H') : ∀ {ds : List PyData} {vs : List V}, DpAll K H vs ds → DpAll K H' vs ds
  | [], _, .nil => .nil
  | d :: ds, _, .cons a t => .cons (Dp.gr g a) (DpAll.gr g t)
end
theorem DpAll.len {K : PySem.W.Frag} {H : Hp} : ∀ {ds : List PyData} {vs : List V}, DpAll K H vs ds → vs.length = ds.length
  | [], _, .nil => rfl
  | d :: ds, _, .cons a t => by rw [List.length_cons, List.length_cons, DpAll.len t]
theorem DpAll.at {K : PySem.W.Frag} {H : Hp} : ∀ {ds : List PyData} {vs : List V} {i : Nat} {d : PyData}, DpAll K H vs ds → ds[i]? = some d → ∃ v, vs[i]? = some v ∧ Dp K H v d
  | [], _, _, _, .nil, e => by simp at e
  | _ :: _, _, 0, _, .cons a _, e => by
    cases e
    exact ⟨_, rfl, a⟩
  | _ :: _, _, i + 1, _, .cons _ t, e => DpAll.at (i := i) t (by simpa using e)
theorem depth_mem {ds : List PyData} {d : PyData} (h : d ∈ ds) : d.depth ≤ PyData.depthAll ds := by
  induction ds with
  | nil => cases h
  | cons x xs ih =>
    rw [PyData.depthAll]
    rcases List.mem_cons.mp h with e | h
    · subst e
      omega
    · have := ih h
      omega
mutual
/-- how many values there are in it -/
def cnt : PyData → Nat
  | .list ds => cntAll ds + 1
  | .tuple ds => cntAll ds + 1
  | .none => 1 | .bool _ => 1 | .int _ => 1 | .str _ => 1 | .dict _ => 1
def cntAll : List PyData → Nat
  | [] => 0
  | d :: ds => cnt d + cntAll ds
end
theorem cnt_pos : ∀ d : PyData, 1 ≤ cnt d
  | .list ds => by rw [cnt]; omega
  | .tuple ds => by rw [cnt]; omega
  | .none => by rw [cnt]; omega
  | .bool _ => by rw [cnt]; omega
  | .int _ => by rw [cnt]; omega
  | .str _ => by rw [cnt]; omega
  | .dict _ => by rw [cnt]; omega
theorem cnt_len : ∀ ds : List PyData, ds.length ≤ cntAll ds
  | [] => by rw [cntAll]; exact Nat.le_refl _
  | d :: ds => by
    rw [cntAll, List.length_cons]
    have := cnt_len ds
    have := cnt_pos d
    omega
theorem cnt_mem {ds : List PyData} {d : PyData} (h : d ∈ ds) : cnt d ≤ cntAll ds := by
  induction ds with
  | nil => cases h
  | cons x xs ih =>
    rw [cntAll]
    rcases List.mem_cons.mp h with e | h
    · subst e
      omega
    · have := ih h
      omega
theorem cnt_le {ds : List PyData} {m : Nat} (h : ∀ d ∈ ds, cnt d ≤ m) : cntAll ds ≤ ds.length * m := by
  induction ds with
  | nil => rw [cntAll]; omega
  | cons x xs ih =>
    rw [cntAll, List.length_cons, Nat.add_mul]
    have h1 := h x (List.mem_cons_self ..)
    have h2 := ih fun d hd => h d (List.mem_cons_of_mem _ hd)
    omega
theorem depth_le {ds : List PyData} {m : Nat} (h : ∀ d ∈ ds, d.depth ≤ m) : PyData.depthAll ds ≤ m := by
  induction ds with
  | nil => rw [PyData.depthAll]; omega
  | cons x xs ih =>
    rw [PyData.depthAll]
    have h1 := h x (List.mem_cons_self ..)
    have h2 := ih fun d hd => h d (List.mem_cons_of_mem _ hd)
    omega
/-! ### how long a repr is -/
theorem textFrom_le : ∀ (ts : List Str) (k : Nat) (acc : Str), (textFrom k acc ts).length ≤ acc.length + piled ts
  | [], _, _ => by
    show _ ≤ _ + 0
    exact Nat.le_refl _
  | t :: ts, k, acc => by
    have h := textFrom_le ts (k + 1) (acc ++ (if k > 0 then ", " else "" : String) ++ t)
    have e : (acc ++ (if k > 0 then ", " else "" : String) ++ t).length = acc.length + (if k > 0 then 2 else 0) + t.length := by
      rw [strLen_append, strLen_append]
      split <;> rfl
    rw [e] at h
    rw [piled_cons]
    show (textFrom (k + 1) (acc ++ (if k > 0 then ", " else "" : String) ++ t) ts).length ≤ _
    have : (if k > 0 then 2 else 0 : Nat) ≤ 2 := by split <;> omega
    omega
theorem piled_shown {ds : List PyData} {m : Nat} (h : ∀ d ∈ ds, d.shown.length ≤ m) : piled (PyData.shownAll ds) ≤ ds.length * (m + 2) := by
  induction ds with
  | nil =>
    rw [PyData.shownAll]
    exact Nat.zero_le _
  | cons d ds ih =>
    rw [PyData.shownAll, piled_cons, List.length_cons, Nat.add_mul]
    have h1 := h d (List.mem_cons_self ..)
    have h2 := ih fun x hx => h x (List.mem_cons_of_mem _ hx)
    omega
theorem shown_list {ds : List PyData} {m : Nat} (h : ∀ d ∈ ds, d.shown.length ≤ m) : (PyData.list ds).shown.length ≤ ds.length * (m + 2) + 2 := by
  have h1 := piled_shown h
  have h2 := textFrom_le (PyData.shownAll ds) 0 "["
  rw [PyData.shown]
  unfold listText
  rw [strLen_append]
  have e1 : ("[" : Str).length = 1 := rfl
  have e2 : ("]" : Str).length = 1 := rfl
  omega
theorem shown_tuple {ds : List PyData} {m : Nat} (h : ∀ d ∈ ds, d.shown.length ≤ m) : (PyData.tuple ds).shown.length ≤ ds.length * (m + 2) + 3 := by
  have h1 := piled_shown h
  rw [PyData.shown]
  unfold tupleText
  rw [strLen_append, strLen_append]
  have e1 : ("(" : Str).length = 1 := rfl
  have e3 : (Str.join ", " (PyData.shownAll ds)).length ≤ piled (PyData.shownAll ds) := by
    by_cases e : PyData.shownAll ds = []
    · rw [e]
      decide
    · have := join_length_add _ e
      omega
  have e2 : ((if (PyData.shownAll ds).length == 1 then ",)" else ")" : String) : Str).length ≤ 2 := by
    split <;> decide
  omega
/-! ### entries as data -/
theorem dpAll_strs {K : PySem.W.Frag} {H : Hp} : ∀ ns : List Str, DpAll K H (ns.map V.str) (ns.map PyData.str)
  | [] => .nil
  | n :: ns => .cons (.str n) (dpAll_strs ns)
theorem dp_strs {K : PySem.W.Frag} {H : Hp} {r : Addr} {ns : List Str} (h : H r = some (.lst (ns.map V.str))) : Dp K H (.ref r) (.list (ns.map PyData.str)) := .lst (SqL.of h) (dpAll_strs ns)
def entD (e : Ent) : PyData := .tuple [.str e.name, .int e.w, .list (e.parts.map PyData.str)]
def catD (es : List Ent) : PyData := .list (es.map entD)
theorem dp_ent {K : PySem.W.Frag} {H : Hp} {v : V} {e : Ent} (h : EntAt H v e) : Dp K H v (entD e) := by
  obtain ⟨t, l, rfl, h1, h2⟩ := h
  exact .tup (SqT.of h1) (.cons (.str _) (.cons (.int _) (.cons (dp_strs h2) .nil)))
theorem dpAll_cat {K : PySem.W.Frag} {H : Hp} : ∀ {vs : List V} {es : List Ent}, CatAt H vs es → DpAll K H vs (es.map entD)
  | _, _, .nil => .nil
  | _, _, .cons h t => .cons (dp_ent h) (dpAll_cat t)
theorem dp_cat {K : PySem.W.Frag} {H : Hp} {r : Addr} {vs : List V} {es : List Ent} (h : SqL K H r vs) (c : CatAt H vs es) : Dp K H (.ref r) (catD es) := .lst h (dpAll_cat c)
/-- texts and numbers that are short -/
def ShwS (x : Str) : Prop := x.length ≤ 8 ∧ ∀ c ∈ x.cps.toList, c < 16 ^ 8
structure ShwE (e : Ent) : Prop where
  name : ShwS e.name
  w : e.w.natAbs < 10 ^ 100
  few : e.parts.length ≤ 20
  parts : ∀ p ∈ e.parts, ShwS p
theorem shown_str {x : Str} (h : ShwS x) : (PyData.str x).shown.length ≤ 82 := by
  have := StrLaws.reprText_len x h.2
  rw [PyData.shown]
  have := h.1
  omega
theorem shown_int {i : Int} (h : i.natAbs < 10 ^ 100) : (PyData.int i).shown.length ≤ 101 := by
  have e := int_text_length_le10 (k := 100) (by decide) h
  rw [PyData.shown]
  show (Str.ofString (toString i)).length ≤ _
  rw [PySem.ofString_length]
  exact e
theorem show_int {i : Int} (h : i.natAbs < 10 ^ 100) : (PyData.int i).showable = true := by
  rw [PyData.showable, decide_eq_true_eq]
  by_cases h0 : i.natAbs = 0
  · rw [h0]
    decide
  · refine (Nat.log2_lt h0).mpr (Nat.lt_of_lt_of_le h ?_)
    decide +kernel
theorem showAll {ds : List PyData} (h : ∀ d ∈ ds, d.showable = true) : PyData.showableAll ds = true := by
  induction ds with
  | nil => rfl
  | cons d ds ih => rw [PyData.showableAll, h d (List.mem_cons_self ..), ih fun x hx => h x (List.mem_cons_of_mem _ hx)]; rfl
theorem show_strs {ns : List Str} (h : ∀ p ∈ ns, ShwS p) : (PyData.list (ns.map PyData.str)).showable = true ∧ (PyData.list (ns.map PyData.str)).shown.length ≤ ns.length * 84 + 2 := by
  refine ⟨?_, ?_⟩
  · rw [PyData.showable]
    exact showAll fun d hd => by
      obtain ⟨p, hp, rfl⟩ := List.mem_map.mp hd
      rfl
  · have := shown_list (ds := ns.map PyData.str) (m := 82) fun d hd => by
      obtain ⟨p, hp, rfl⟩ := List.mem_map.mp hd
      exact shown_str (h p hp)
    rwa [List.length_map] at this
theorem show_ent {e : Ent} (h : ShwE e) : (entD e).showable = true ∧ (entD e).shown.length ≤ 6000 := by
  obtain ⟨h1, h2⟩ := show_strs h.parts
  have h3 := h.few
  refine ⟨?_, ?_⟩
  · unfold entD
    rw [PyData.showable]
    refine showAll fun d hd => ?_
    rcases List.mem_cons.mp hd with rfl | hd
    · rfl
    rcases List.mem_cons.mp hd with rfl | hd
    · exact show_int h.w
    rw [List.mem_singleton.mp hd]
    exact h1
  · unfold entD
    refine Nat.le_trans (shown_tuple (m := 1700) fun d hd => ?_) (by show 3 * (1700 + 2) + 3 ≤ 6000; decide)
    rcases List.mem_cons.mp hd with rfl | hd
    · exact Nat.le_trans (shown_str h.name) (by decide)
    rcases List.mem_cons.mp hd with rfl | hd
    · exact Nat.le_trans (shown_int h.w) (by decide)
    rw [List.mem_singleton.mp hd]
    omega
theorem show_cat {es : List Ent} (h : ∀ e ∈ es, ShwE e) (hz : es.length ≤ 1000) : (catD es).showable = true ∧ (catD es).shown.length ≤ sizeLine := by
  refine ⟨?_, ?_⟩
  · unfold catD
    rw [PyData.showable]
    exact showAll fun d hd => by
      obtain ⟨e, he, rfl⟩ := List.mem_map.mp hd
      exact (show_ent (h e he)).1
  · unfold catD
    have := shown_list (ds := es.map entD) (m := 6000) fun d hd => by
      obtain ⟨e, he, rfl⟩ := List.mem_map.mp hd
      exact (show_ent (h e he)).2
    rw [List.length_map] at this
    rw [sizeLine_eq]
    have h2 : es.length * 6002 ≤ 1000 * 6002 := Nat.mul_le_mul_right _ hz
    omega
theorem depth_cat (es : List Ent) : (catD es).depth ≤ 3 := by
  unfold catD
  rw [PyData.depth]
  have : PyData.depthAll (es.map entD) ≤ 2 := depth_le fun d hd => by
    obtain ⟨e, he, rfl⟩ := List.mem_map.mp hd
    unfold entD
    rw [PyData.depth]
    have : PyData.depthAll [.str e.name, .int e.w, .list (e.parts.map PyData.str)] ≤ 1 := depth_le fun d hd => by
      rcases List.mem_cons.mp hd with rfl | hd
      · rw [PyData.depth]; omega
      rcases List.mem_cons.mp hd with rfl | hd
      · rw [PyData.depth]; omega
      rw [List.mem_singleton.mp hd, PyData.depth]
      have : PyData.depthAll (e.parts.map PyData.str) ≤ 0 := depth_le fun d hd => by
        obtain ⟨p, hp, rfl⟩ := List.mem_map.mp hd
        rw [PyData.depth]
        exact Nat.le_refl _
      omega
    omega
  omega
theorem depth_strs (ns : List Str) : (PyData.list (ns.map PyData.str)).depth ≤ 1 := by
  rw [PyData.depth]
  have : PyData.depthAll (ns.map PyData.str) ≤ 0 := depth_le fun d hd => by
    obtain ⟨p, hp, rfl⟩ := List.mem_map.mp hd
    rw [PyData.depth]
    exact Nat.le_refl _
  omega
theorem cnt_strs (ns : List Str) : cnt (PyData.list (ns.map PyData.str)) ≤ ns.length + 1 := by
  rw [cnt]
  have := cnt_le (ds := ns.map PyData.str) (m := 1) fun d hd => by
    obtain ⟨p, hp, rfl⟩ := List.mem_map.mp hd
    rw [cnt]
    exact Nat.le_refl _
  rw [List.length_map] at this
  omega
end Sk
/-! repr of a list of lists and of dicts of numbers -/
namespace Sk
open PySem PySem.Spec PyProof.Rows L2
def numD (n : Num) : PyData := .dict (n.map fun q => (.str q.1, .int q.2))
/-- nested data, or a dict of numbers -/
def DpM (K : PySem.W.Frag) (H : Hp) (v : V) (d : PyData) : Prop := Dp K H v d ∨ ∃ b n, v = .ref b ∧ H b = some (.dK (dS n)) ∧ d = numD n
section
variable {prog : Program} {w : World}
theorem reads_pairs {h : Heap} : ∀ (n : Num) (es : List DictEntry) (kvs : List (Key × Value)), Pairs (mixKind prog w) es kvs → KV (dS n) kvs → ReadsAll h (es.map (·.key)) (n.map fun q => PyData.str q.1) [] ∧ ReadsAll h (es.map (·.val)) (n.map fun q => PyData.int q.2) []
  | [], es, kvs, p, r => by
    cases r
    cases p
    exact ⟨.nil, .nil⟩
  | q :: n, es, kvs, p, r => by
    cases r with
    | cons r1 r2 =>
      cases p with
      | cons hk hv p =>
        obtain ⟨h1, h2⟩ := reads_pairs n _ _ p r2
        obtain ⟨e1, e2⟩ := r1
        rcases keyIs_shape hk with ⟨i, t, a1, a2⟩ | ⟨x, t, a1, a2⟩
        · rw [← e1] at a1
          cases a1
        · rw [← e1] at a1
          cases a1
          obtain ⟨t2, a3⟩ := e2
          refine ⟨?_, ?_⟩
          · rw [List.map_cons, List.map_cons, a2]
            exact ReadsAll.cons (as := []) (.str _ _) h1
          · rw [List.map_cons, List.map_cons, hv, a3]
            exact ReadsAll.cons (as := []) (.int _ _) h2
end
section
variable {X : Cx} {pins : List (Addr × Obj)} {σ : L2.St} {H : Hp} {s : Shared}
theorem DpM.reads (I : Inv X pins σ H s) {v : V} {u : Value} {d : PyData} (h : DpM X.K H v d) (r : RelV v u) : ∃ as, Reads s.heap u d as ∧ (d.hasDict = true → sysModules ∉ as) := by
  rcases h with h | ⟨b, n, rfl, hb, rfl⟩
  · obtain ⟨as, h1⟩ := Dp.reads I d v u h r
    exact ⟨as, h1, fun z => by rw [Dp.noDict h] at z; cases z⟩
  · obtain rfl : u = Value.ref b := r
    obtain ⟨_, hsys, vs, rel, dof⟩ := dk_of I.hok hb
    obtain ⟨o, es, ep, ho, ex, hd, _, hp, _⟩ := dof
    obtain ⟨h1, h2⟩ := reads_pairs (h := s.heap) n _ _ hp rel
    have k1 : ReadsAll s.heap (es.toList.map (·.key)) ((n.map fun q : Str × Int => (PyData.str q.1, PyData.int q.2)).map (·.1)) [] := by
      rw [List.map_map]
      exact h1
    have k2 : ReadsAll s.heap (es.toList.map (·.val)) ((n.map fun q : Str × Int => (PyData.str q.1, PyData.int q.2)).map (·.2)) [] := by
      rw [List.map_map]
      exact h2
    refine ⟨_, Reads.dict ho ex.1 hd k1 k2, fun _ => ?_⟩
    · intro hm
      have e : sysModules = b := List.mem_singleton.mp (by simpa using hm)
      rw [e] at hsys
      simp at hsys
end
/-- data of a list, item by item -/
def rReprM (K : PySem.W.Frag) : List V → Hp → VK → Prop := fun xs H Q => ∃ (a : Addr) (us : List V) (ds : List PyData), xs = [.ref a] ∧ SqL K H a us ∧ Paired (DpM K H) us ds ∧ us ≠ [] ∧ (∀ d ∈ ds, d.showable = true ∧ d.shown.length ≤ sizeLine ∧ d.depth ≤ 50) ∧ (PyData.list ds).shown.length ≤ sizeLine ∧ Q (.str (PyData.list ds).shown) H
theorem crReprM {X : Cx} {K : PySem.W.Frag} (e : X.K = K) (hg : X.A.guards = some []) (hu : X.A.units + 64 < cLine) : CallR X (.builtin "repr") (rReprM K) := by
  subst e
  intro pins s σ H xs us Q I r h
  obtain ⟨a, vs, ds, rfl, hs, hp, hne, hsh, hz, q⟩ := h
  obtain ⟨u, rfl, ru⟩ := vals1 r
  obtain rfl : u = Value.ref a := ru
  obtain ⟨its, rv, ⟨o, n, ho, hc, hdn, hd⟩, hlen⟩ := I.list hs
  -- the items
  have items : ∀ {vs : List V} {ds : List PyData} {its : List Value}, Paired (DpM X.K H) vs ds → Vals vs its → (∀ d ∈ ds, d.showable = true ∧ d.shown.length ≤ sizeLine ∧ d.depth ≤ 50) →
      (∃ as, ReadsAll s.heap its ds as) ∧ ∃ bs, ReadAtMost s.heap (PyData.depthAll ds) bs ∧ ReprAllK X.prog X.w bs s.heap (PyData.depthAll ds) its (PyData.shownAll ds) := by
    intro vs ds its hp
    induction hp generalizing its with
    | nil =>
      intro rv _
      cases rv
      exact ⟨⟨_, .nil⟩, [], (fun _ h => nomatch h), by rw [PyData.shownAll]; exact .nil⟩
    | cons hd _ ih =>
      intro rv hsh
      cases rv with
      | cons r1 r2 =>
        obtain ⟨⟨as2, k2⟩, b2, hb2, k3⟩ := ih r2 fun d hd => hsh d (List.mem_cons_of_mem _ hd)
        obtain ⟨as, k1, hsm⟩ := DpM.reads I hd r1
        obtain ⟨s1, s2, s3⟩ := hsh _ (List.mem_cons_self ..)
        obtain ⟨b1, hb1, k4⟩ := ReprK.of_reads (prog := X.prog) (w := X.w) k1 s1 hsm s2
        refine ⟨⟨_, .cons k1 k2⟩, b1 ++ b2, ?_, ?_⟩
        · rw [PyData.depthAll]
          exact (hb1.mono (Nat.le_max_left _ _)).append (hb2.mono (Nat.le_max_right _ _))
        · rw [PyData.depthAll, PyData.shownAll]
          exact .cons ((k4.more fun b hb => List.mem_append_left _ hb).level_le (Nat.le_max_left _ _)) (k3.more_le (fun b hb => List.mem_append_right _ hb) (Nat.le_max_right _ _))
  obtain ⟨⟨as, ra⟩, bs, hbs, hk⟩ := items hp rv hsh
  have whole : Reads s.heap (.ref a) (.list ds) (a :: as) := .list ho hc hd ra
  have hna : a ∉ bs := not_mem_of_deeper whole (by rw [PyData.depth]; omega) hbs
  have hdp : PyData.depthAll ds ≤ 50 := depth_le fun d hd => (hsh d hd).2.2
  cases its with
  | nil =>
    cases rv
    exact absurd rfl hne
  | cons x l =>
    have hz' : (listText (PyData.shownAll ds)).length ≤ sizeLine := by
      rw [PyData.shown] at hz
      exact hz
    refine call_repr_slot (by omega) ⟨o, ho, hc⟩ F.slot_list_repr.toG (call_list_reprK (A := X.A.in1) ho hc hd hna (by simpa using hk.length_eq) (fun i y e => hk.item i y (by simpa using e)) hg (fun b _ => Clear.nil b) (by show X.A.units + 1 + _ < cLine; omega) (fun _ _ e => e) (fun h' u tk k => ⟨_, _, rfl, ?_⟩) hz')
    have e1 : listText (PyData.shownAll ds) = (PyData.list ds).shown := by rw [PyData.shown]
    rw [e1]
    exact ⟨.str _, H, I.kept k, ⟨u, rfl⟩, q⟩
/-! ### how long -/
theorem piled_kv {m : Nat} : ∀ {n : Num}, (∀ q ∈ n, ShwS q.1 ∧ q.2.natAbs < 10 ^ 100) → piled (PyData.shownKv (n.map fun q => (PyData.str q.1, PyData.int q.2))) ≤ n.length * 190
  | [], _ => by
    rw [List.map_nil, PyData.shownKv]
    exact Nat.zero_le _
  | q :: n, h => by
    rw [List.map_cons, PyData.shownKv, piled_cons, List.length_cons, Nat.add_mul]
    have h1 := shown_str (h q (List.mem_cons_self ..)).1
    have h2 := shown_int (h q (List.mem_cons_self ..)).2
    have h3 := piled_kv (m := m) fun z hz => h z (List.mem_cons_of_mem _ hz)
    have e : ((PyData.str q.1).shown ++ ": " ++ (PyData.int q.2).shown).length = (PyData.str q.1).shown.length + 2 + (PyData.int q.2).shown.length := by
      rw [strLen_append, strLen_append]
      rfl
    rw [e]
    omega
theorem show_num {n : Num} (h : ∀ q ∈ n, ShwS q.1 ∧ q.2.natAbs < 10 ^ 100) : (numD n).showable = true ∧ (numD n).shown.length ≤ n.length * 190 + 4 ∧ (numD n).depth ≤ 1 := by
  refine ⟨?_, ?_, ?_⟩
  · unfold numD
    rw [PyData.showable]
    induction n with
    | nil => rfl
    | cons q n ih =>
      rw [List.map_cons, PyData.showableKv, ih fun z hz => h z (List.mem_cons_of_mem _ hz), show_int (h q (List.mem_cons_self ..)).2]
      rfl
  · unfold numD
    have h1 := piled_kv (m := 0) h
    rw [PyData.shown]
    unfold dictText
    rw [strLen_append, strLen_append]
    have e1 : ("{" : Str).length = 1 := rfl
    have e2 : ("}" : Str).length = 1 := rfl
    have e3 : (Str.join ", " (PyData.shownKv (n.map fun q => (PyData.str q.1, PyData.int q.2)))).length ≤ piled (PyData.shownKv (n.map fun q => (PyData.str q.1, PyData.int q.2))) := by
      by_cases e : PyData.shownKv (n.map fun q => (PyData.str q.1, PyData.int q.2)) = []
      · rw [e]
        decide
      · have := join_length_add _ e
        omega
    omega
  · unfold numD
    rw [PyData.depth]
    have : PyData.depthKv (n.map fun q => (PyData.str q.1, PyData.int q.2)) = 0 := by
      clear h
      induction n with
      | nil => rfl
      | cons q n ih =>
        rw [List.map_cons, PyData.depthKv, ih, PyData.depth, PyData.depth]
        rfl
    omega
theorem show_cat_len {es : List Ent} (h : ∀ e ∈ es, ShwE e) : (catD es).shown.length ≤ es.length * 6002 + 2 := by
  unfold catD
  have := shown_list (ds := es.map entD) (m := 6000) fun d hd => by
    obtain ⟨e, he, rfl⟩ := List.mem_map.mp hd
    exact (show_ent (h e he)).2
  rwa [List.length_map] at this
end Sk
/-! l.count(x), a list of texts -/
namespace Sk
open PySem PySem.Spec PyProof.Rows L2
def eqTx (k : Str) (v : Value) : Bool := match v with
  | .str n _ => decide (n = k)
  | _ => false
def rCntS (K : PySem.W.Frag) : V → List V → Hp → VK → Prop := fun x xs H Q => ∃ (p : Addr) (ns : List Str) (k : Str), x = .ref p ∧ xs = [.str k] ∧ SqL K H p (ns.map V.str) ∧ Q (.int (amt (ones ns) k)) H
theorem cnt_texts {k : Str} : ∀ {ns : List Str} {us : List Value}, Vals (ns.map V.str) us → ((us.countP (eqTx k) : Nat) : Int) = amt (ones ns) k
  | [], _, .nil => rfl
  | n :: ns, _, .cons ⟨t, e⟩ r => by
    have ih := cnt_texts (k := k) r
    unfold ones at ih ⊢
    rw [List.countP_cons, List.map_cons, amt_cons, ← ih, e]
    show _ = (if n = k then (1 : Int) else 0) + _
    by_cases c : n = k
    · rw [if_pos c, if_pos (show eqTx k (.str n t) = true from decide_eq_true c)]
      omega
    · rw [if_neg c, if_neg (show ¬ eqTx k (.str n t) = true from fun z => c (of_decide_eq_true z))]
      omega
theorem txt_gives {k : Str} {t : Tok} : ∀ {ns : List Str} {us : List Value}, Vals (ns.map V.str) us → ∀ y ∈ us, MeetsSeq.EqGives y (.str k t) (eqTx k y)
  | [], _, .nil, y, hy => by cases hy
  | n :: ns, _, .cons ⟨t', e⟩ r, y, hy => by
    rcases List.mem_cons.mp hy with z | z
    · rw [z, e]
      have h := SeqRoads2.EqGives.str n k t' t
      have e2 : eqTx k (.str n t') = (n.cps.toList == k.cps.toList) := by
        show decide (n = k) = _
        rw [Bool.eq_iff_iff, decide_eq_true_eq, beq_iff_eq]
        exact ⟨fun z => by rw [z], fun z => str_ext z⟩
      rw [e2]
      exact h
    · exact txt_gives r y z
theorem mt_cntS {X : Cx} {K : PySem.W.Frag} (eK : X.K = K) : MtR X "list.count" (rCntS K) := by
  subst eK
  intro pins s σ H x xs v us Q I rx rxs h
  obtain ⟨p, ns, k, rfl, rfl, hs, q⟩ := h
  cases rx
  obtain ⟨u, rfl, ru⟩ := rxs.one
  obtain ⟨t, rfl⟩ := ru
  obtain ⟨its, rv, ⟨⟨cls, dd, data, sl⟩, n, ho, hc, hdn, hd⟩, _⟩ := I.list hs
  simp only at hc hd
  subst hc hd
  have ec := cnt_texts (k := k) rv
  refine call_meets PySem.F.slot_list_count ⟨_, ho, rfl⟩ PySem.F.entry_list_count (PySem.F.args_list_count_2 _ _) (SeqAt.list_countAt p its.toArray n dd sl (.str k t) (eqTx k))
    ⟨ho, fun y hy => (txt_gives rv y (by simpa using hy)).at _ _, .int (amt (ones ns) k), H, I.tok _, ⟨s.toks, ?_⟩, q⟩
  rw [← ec]
end Sk
/-! sorted(set(xs)), xs a list of texts -/
namespace Sk
open PySem PySem.Spec PyProof.Rows L2
def keyT (e : Int × Value) : Str := match e.2 with | .str x _ => x | _ => Str.empty
def GoodT (w : World) (e : Int × Value) : Prop := ∃ x tk, e.2 = Value.str x tk ∧ e.1 = hashStr w x
/-- the set of texts at a: S its members, n their number -/
def SetT (w : World) (h : Heap) (a : Addr) (S : Str → Bool) (n : Nat) : Prop :=
  ∃ o es ep t, h.get? a = some o ∧ o.ExactSet ∧ o.data = .set es ep t ∧ (∀ e ∈ es.toList, GoodT w e) ∧ (es.toList.map keyT).Nodup ∧ (∀ k, S k = true ↔ k ∈ es.toList.map keyT) ∧
    es.size < scanBound ∧ t.fits es.size = true ∧ es.size = n ∧ Ris t.place.toList ∧ (w.params.followText "set-order" = true ∨ t.led = true)
section
variable {P : Program} {w : World} {h h' : Heap} {a : Addr} {S : Str → Bool} {n : Nat}
theorem SetT.at (R : SetT w h a S n) (k : ∀ o, h.get? a = some o → h'.get? a = some o) : SetT w h' a S n := let ⟨o, es, ep, t, ho, r⟩ := R; ⟨o, es, ep, t, k o ho, r⟩
theorem SetT.congr {S' : Str → Bool} (R : SetT w h a S n) (e : ∀ k, S' k = S k) : SetT w h a S' n := (funext e : S' = S) ▸ R
theorem goodT_elems {l : List (Int × Value)} (g : ∀ e ∈ l, GoodT w e) : ElemsOf (PySem.strKind P w) l := fun e he => by
  obtain ⟨x, tk, h1, h2⟩ := g e he
  exact ⟨⟨x, by rw [h1]; exact strKind_is P w x tk, h2⟩, by rw [h1] <;> rfl⟩
theorem goodT_is {e : Int × Value} (g : GoodT w e) (k : Str) : (PySem.strKind P w).is k e.2 = true ↔ keyT e = k := by
  obtain ⟨x, tk, h1, _⟩ := g
  unfold keyT
  rw [h1]
  constructor
  · intro z
    exact (PySem.strKind P w).inj _ _ _ (strKind_is P w x tk) z
  · rintro rfl
    exact strKind_is P w x tk
theorem goodT_mem {l : List (Int × Value)} (g : ∀ e ∈ l, GoodT w e) (k : Str) : k ∈ l.map keyT ↔ ∃ e ∈ l, (PySem.strKind P w).is k e.2 = true := by
  rw [List.mem_map]
  exact ⟨fun ⟨e, he, q⟩ => ⟨e, he, (goodT_is (g e he) k).2 q⟩, fun ⟨e, he, q⟩ => ⟨e, he, (goodT_is (g e he) k).1 q⟩⟩
end
section
variable {P : Program} {w : World} {A : Around} {E : Value → Shared → Prop} {s : Shared} {a : Addr} {S : Str → Bool} {n : Nat}
theorem setT_tail {g : Bool → Sem Unit} (hg : ∀ (b : Bool) (s₁ : Shared) (Q' : Unit → Shared → Prop), Q' () s₁ → wpAny (model P w) A (g b) Q' E s₁) {o : Obj} {es : Array (Int × Value)} {ep : Nat} {t : SetTable} (ho : s.heap.get? a = some o) (hex : o.ExactSet) (hd : o.data = .set es ep t)
    {zs : Array (Int × Value)} {t2 : SetTable} {S' : Str → Bool} (g1 : ∀ e ∈ zs.toList, GoodT w e) (nd1 : (zs.toList.map keyT).Nodup) (m1 : ∀ k, S' k = true ↔ k ∈ zs.toList.map keyT)
    (hb1 : zs.size < scanBound) (hf2 : t2.fits zs.size = true) (hr : Ris t2.place.toList) (hl : w.params.followText "set-order" = true ∨ t2.led = true) {dum : Bool} {R : Option Bool → Shared → Prop}
    (hR : ∀ h', Heap.SameBut a s.heap h' → SetT w h' a S' zs.size → R (some true) { s with heap := h' }) :
    wpAny (model P w) A (do
        storeSet a zs t2
        if (!dum && t2.tooFull) = true then do
            g (relayAll t2 zs (SetTable.grown zs.size)).2.2
            storeSet a (relayAll t2 zs (SetTable.grown zs.size)).1 (relayAll t2 zs (SetTable.grown zs.size)).2.1
            pure (some true)
          else pure (some true)) R E s := by
  have ho1 := store_at (es' := zs) (t' := t2) ho hd
  have sb1 := Heap.SameBut.update s.heap a (Obj.putSet zs t2)
  refine wpAny_bind (wpAny_storeSet_of ho hd ?_ (fits_of_scanBound hb1))
  by_cases c : (!dum && t2.tooFull) = true
  · rw [if_pos c]
    have pm := relayAll_perm t2 zs (SetTable.grown zs.size)
    have hf3 := relayAll_fits t2 zs (SetTable.grown zs.size)
    have hr3 := relayAll_ris t2 zs (SetTable.grown zs.size)
    have hl3 := relayAll_led t2 zs (SetTable.grown zs.size)
    generalize relayAll t2 zs (SetTable.grown zs.size) = Z at pm hf3 hr3 hl3 ⊢
    obtain ⟨ys, t3, gave⟩ := Z
    dsimp only at pm hf3 hr3 hl3 ⊢
    have hsz : ys.size = zs.size := by rw [← Array.length_toList, pm.length_eq, Array.length_toList]
    have ho2 := store_at (es' := ys) (t' := t3) ho1 rfl
    refine wpAny_bind (hg _ _ _ (wpAny_bind (wpAny_storeSet_of ho1 rfl (wpAny_pure (hR _ (sb1.trans (Heap.SameBut.update _ a _)) ?_)) (fits_of_scanBound (by rw [hsz]; exact hb1)))))
    exact ⟨_, ys, _, t3, ho2, hex, rfl, fun e he => g1 e (pm.mem_iff.mp he), (pm.map keyT).nodup_iff.mpr nd1, fun k => (m1 k).trans (pm.map keyT).mem_iff.symm, by rw [hsz]; exact hb1, hf3, hsz, hr3, hl.imp id fun z => by rw [hl3]; exact z⟩
  · rw [if_neg c]
    exact wpAny_pure (hR _ sb1 ⟨_, zs, _, t2, ho1, hex, rfl, g1, nd1, m1, hb1, hf2, rfl, hr, hl⟩)
theorem setT_add {k : Str} {tk : Tok} {Q : Bool → Shared → Prop} (R : SetT w s.heap a S n) (room : n + 1 < scanBound)
    (hQ : ∀ h', Heap.SameBut a s.heap h' → SetT w h' a (fun j => S j || decide (j = k)) (if S k = true then n else n + 1) → Q (!S k) { s with heap := h' }) :
    wpAny (model P w) A (setAddHashed a (.str k tk) ((PySem.strKind P w).hash k)) Q E s := by
  obtain ⟨o, es, ep, t, ho, hex, hd, g, nd, hm, hb, hf, hn, hr, hl⟩ := R
  have hkey : (PySem.strKind P w).is k (.str k tk) = true := strKind_is P w k tk
  have hsc : (Value.str k tk).scannable = true := rfl
  have hel : ElemsOf (PySem.strKind P w) es.toList := goodT_elems g
  have hgw : ∀ (b : Bool) {s₁ : Shared} {Q' : Unit → Shared → Prop}, Q' () s₁ → wpAny (model P w) A (match b with | true => rule "set.scan.the-table-gave-way" | false => pure ()) Q' E s₁ := fun b s₁ Q' q => by
    cases b
    · first | exact wpAny_pure q | exact wpAny_rule q
    · first | exact wpAny_pure q | exact wpAny_rule q
  unfold setAddHashed setAddHashedIn
  refine wpAny_holding (wpAny_bind (wpAny_setState_of ho hd hf ?_))
  dsimp only
  rw [byScan_of hsc hb hel]
  simp only [↓reduceIte]
  unfold setAddByScan
  refine wpAny_bind (wpAny_bind (wpAny_rule (wpAny_bind (wpAny_setScan_of hkey ho hd hf hel ?_))))
  cases hfi : List.findIdx? (fun e => (PySem.strKind P w).is k e.2) es.toList with
  | some j =>
    dsimp only
    obtain ⟨hj, pj, _⟩ := List.findIdx?_eq_some_iff_getElem.mp hfi
    have hSk : S k = true := (hm k).2 ((goodT_mem (P := P) (w := w) g k).2 ⟨es.toList[j], List.getElem_mem hj, pj⟩)
    have q := hQ s.heap (Heap.SameBut.refl a s.heap) ⟨o, es, ep, t, ho, hex, hd, g, nd, fun i => by
      rw [Bool.or_eq_true, decide_eq_true_eq, ← hm i]
      exact ⟨fun z => z.elim id (fun e => e ▸ hSk), .inl⟩, hb, hf, by rw [if_pos hSk]; exact hn, hr, hl⟩
    rw [hSk] at q
    exact wpAny_pure (wpAny_pure q)
  | none =>
    dsimp only
    have hnk : k ∉ es.toList.map keyT := fun z => by
      obtain ⟨e, he, q⟩ := (goodT_mem (P := P) (w := w) g k).1 z
      have c := List.findIdx?_eq_none_iff.mp hfi e he
      rw [q] at c
      cases c
    have hSk : S k = false := by
      cases q : S k with
      | false => rfl
      | true => exact absurd ((hm k).1 q) hnk
    have pm := layNew_perm t es ((PySem.strKind P w).hash k) (.str k tk)
    have hf1 := layNew_fits t es ((PySem.strKind P w).hash k) (.str k tk)
    have hr1 := layNew_ris t es ((PySem.strKind P w).hash k) (.str k tk) hr
    have hl1 := layNew_led t es ((PySem.strKind P w).hash k) (.str k tk)
    generalize layNew t es ((PySem.strKind P w).hash k) (.str k tk) = Z at pm hf1 hr1 hl1 ⊢
    obtain ⟨zs, t1, dum, gave⟩ := Z
    dsimp only at pm hf1 hr1 hl1 ⊢
    rw [Array.toList_push] at pm
    have pc : zs.toList.Perm (((PySem.strKind P w).hash k, Value.str k tk) :: es.toList) := pm.trans (List.perm_append_singleton _ _)
    have pk : (zs.toList.map keyT).Perm (k :: es.toList.map keyT) := pc.map keyT
    have g1 : ∀ e ∈ zs.toList, GoodT w e := fun e he => by
      rcases List.mem_cons.mp (pc.mem_iff.mp he) with rfl | z
      · exact ⟨k, tk, rfl, rfl⟩
      · exact g e z
    have nd1 : (zs.toList.map keyT).Nodup := pk.nodup_iff.mpr (List.nodup_cons.mpr ⟨hnk, nd⟩)
    have m1 : ∀ i, (S i || decide (i = k)) = true ↔ i ∈ zs.toList.map keyT := fun i => by
      rw [Bool.or_eq_true, decide_eq_true_eq, hm i, pk.mem_iff, List.mem_cons]
      exact Or.comm
    have hsz : zs.size = n + 1 := by rw [← Array.length_toList, pc.length_eq, List.length_cons, Array.length_toList, hn]
    have hb1 : zs.size < scanBound := by rw [hsz]; exact room
    have hled : w.params.followText "set-order" = true ∨ t1.led = true := hl.imp id fun z => by rw [hl1]; exact z
    have fin : ∀ h', Heap.SameBut a s.heap h' → SetT w h' a (fun j => S j || decide (j = k)) zs.size → Q true { s with heap := h' } := fun h' sb r => by
      have q := hQ h' sb
      rw [hSk] at q
      rw [hsz] at r
      exact q r
    refine wpAny_bind (hgw _ ?_)
    split
    · refine wpAny_bind ?_
      rw [hashByValue_scannable 8 hsc]
      refine wpAny_pure (setT_tail (fun b s₁ Q' q => ?_) ho hex hd g1 nd1 m1 hb1 ?_ ?_ ?_ fun h' sb r => ?_)
      · cases b
        · first | exact wpAny_pure q | exact wpAny_rule q
        · first | exact wpAny_pure q | exact wpAny_rule q
      · first | (split <;> first | exact hf1 | exact SetTable.fits_plain_off hf1) | exact hf1
      · first | (split <;> exact hr1) | exact hr1
      · first | (split <;> exact hled) | exact hled
      · dsimp only
        exact wpAny_pure (fin h' sb r)
    · refine wpAny_bind (wpAny_pure ?_)
      simp only [↓reduceIte]
      refine setT_tail (fun b s₁ Q' q => ?_) ho hex hd g1 nd1 m1 hb1 hf1 hr1 hled fun h' sb r => ?_
      · cases b
        · first | exact wpAny_pure q | exact wpAny_rule q
        · first | exact wpAny_pure q | exact wpAny_rule q
      · dsimp only
        exact wpAny_pure (fin h' sb r)
/-! ### set(xs) -/
/-- a fresh set, as the model lays it -/
abbrev frS (w : World) : Obj := { cls := .type "set", dict := none, data := .set #[] 0 (.fresh 0 0 (!w.params.followText "set-order")) }
theorem setT_new {h : Heap} {a : Addr} {ns : List Str} (ho : h.get? a = some (frS w)) : SetT w h a (fun j => decide (j ∈ ns.take 0)) 0 := by
  refine ⟨_, #[], 0, _, ho, ⟨rfl, rfl, rfl⟩, rfl, (fun e he => by simp at he), (by simp), (fun k => by simp), (by decide), (by rfl), rfl, List.Pairwise.nil, ?_⟩
  show _ ∨ (!w.params.followText "set-order") = true
  cases w.params.followText "set-order" with
  | false => exact .inr rfl
  | true => exact .inl rfl
theorem set_loopT {I : Addr} {fp wr : List Addr} {G : Array GenState → Array GenState → Prop} {n : Nat} {Pv : Nat → Value → Prop} {St : Nat → Shared → Prop} {R : Result → Shared → Prop}
    (W : WalksS P w A.in1 I fp wr G n Pv St) (C : Addr) (hSf : C ∉ fp) (ns : List Str) (hn : n = ns.length) (hb : ns.length + 1 < scanBound) (hval : ∀ i v, Pv i v → ∃ k t, ns[i]? = some k ∧ v = .str k t) :
    ∀ (k i : Nat) (s : Shared), n - i = k → i ≤ n → St i s → (∃ c, c ≤ i ∧ SetT w s.heap C (fun j => decide (j ∈ ns.take i)) c) →
      (∀ s' c, Moved (C :: wr) G s s' → c ≤ n → SetT w s'.heap C (fun j => decide (j ∈ ns)) c → R (.ok (.ret .none)) s') → codeAny (model P w) A (.builtin "set.update.loop" ⟨[.ref C, .ref I], []⟩) R s := by
  have hSw : C ∉ wr := fun h => hSf (W.sub _ h)
  have hsub : ∀ b ∈ wr, b ∈ C :: wr := fun b hb => List.mem_cons_of_mem _ hb
  intro k
  induction k with
  | zero =>
    rintro i s hk' hi hst ⟨c, hc, hS⟩ hR
    obtain rfl : i = n := by omega
    refine codeAny_builtin F.entry_set_update_loop ?_
    rw [Around.under_plainId F.plain_set_update_loop _]
    refine wpAny_bind (W.done s _ _ hst fun s' hm => ?_)
    show wpAny _ A.in1 (ret Value.none) _ _ s'
    rw [List.take_of_length_le (by omega)] at hS
    exact wpAny_pure (hR s' c (hm.mono hsub) hc (hS.at fun o e => hm.heap C o hSw e))
  | succ k ih =>
    rintro i s hk' hi hst ⟨c, hc, hS⟩ hR
    have hlt : i < n := by omega
    refine codeAny_builtin F.entry_set_update_loop ?_
    rw [Around.under_plainId F.plain_set_update_loop _]
    refine wpAny_bind (W.item i s _ _ hlt hst fun v s' hP hst' hm => ?_)
    obtain ⟨z, t, hz, rfl⟩ := hval i v hP
    have hS' : SetT w s'.heap C (fun j => decide (j ∈ ns.take i)) c := hS.at fun o e => hm.heap C o hSw e
    show wpAny _ A.in1 (holding [Value.str z t] (setAdd C (.str z t)) >>= _) _ _ s'
    refine wpAny_bind (wpAny_holding ?_)
    unfold setAdd
    refine wpAny_holding (wpAny_bind ((PySem.strKind P w).pyHash (k := z) (strKind_is _ _ _ _) ?_))
    refine setT_add (s := { s' with toks := s'.toks + 1 }) hS' (by omega) fun h' hsb hS2 => ?_
    have hS3 : SetT w h' C (fun j => decide (j ∈ ns.take (i + 1))) (if decide (z ∈ ns.take i) = true then c else c + 1) := hS2.congr fun j => by
      rw [List.take_add_one, hz]
      simp [List.mem_append]
    have hc3 : (if decide (z ∈ ns.take i) = true then c else c + 1) ≤ i + 1 := by split <;> omega
    refine wpAny_pure ⟨plainId_quiet F.plain_set_update_loop _, ih (i + 1) _ (by omega) hlt (W.frame _ s' _ _ hst' (Nat.le_succ _) fun b hb o e => ?_) ⟨_, hc3, hS3⟩ fun s'' c2 hm2 hcc hS4 => ?_⟩
    · rw [hsb.2 b (fun h : b = C => hSf (by rw [← h]; exact hb))]
      exact e
    · refine hR s'' c2 (Moved.trans W.gtrans ((hm.mono hsub).then_heap (Nat.le_succ _) fun b o hb e => ?_) hm2) hcc hS4
      rw [hsb.2 b (fun h : b = C => hb (by rw [h]; exact List.mem_cons_self))]
      exact e
theorem call_setT {l : Addr} {items : Array Value} (ns : List Str) {Q : Value → Shared → Prop} (hh : A.handled = none) (hl : s.heap.IsList l items) (hit : StrsAre items.toList ns) (hb : ns.length + 1 < scanBound)
    (h : ∀ (h' : Heap) (tk c : Nat), SetT w h' s.heap.objs.size (fun j => decide (j ∈ ns)) c → c ≤ ns.length → (∀ b o, s.heap.get? b = some o → h'.get? b = some o) → Q (.ref s.heap.objs.size) { s with heap := h', toks := tk }) :
    wpAny (model P w) A (call (.type "set") [.ref l]) Q E s := by
  have hisz : items.size = ns.length := by
    have q := hit.len_eq
    rw [Array.length_toList] at q
    exact q
  obtain ⟨c, tl, hmro⟩ := PySem.F.called_set.mro
  have hmade := PySem.F.called_set.made
  have hsub := PySem.F.called_set.sub
  refine wpAny_call (codeAny_of_tree ?_)
  show wpAny _ _ (callAny (.type "set") _) _ _ _
  refine wpAny_pure ⟨Code.quiet_builtin _ (by decide +kernel), codeAny_builtin PySem.F.entry_type_call ?_⟩
  rw [Around.under_plain (weight_type_call_type "set" [.ref l] []) rfl]
  have h1 := PySem.F.called_set.notType
  have h2 := PySem.F.called_set.canCreate
  have hct := PySem.F.typeCall_set_1 (.ref l)
  repeat (any_goals (first | assumption | wp_step))
  refine codeAny_mono (code_set_led1 (.ref l) (E := E) (Q₁ := fun obj s₁ => obj = .ref s.heap.objs.size ∧ s₁ = { s with heap := s.heap.push (frS w) }) ⟨rfl, rfl⟩) fun r s₁ hr => ?_
  match r, hr with
  | .error e, hr => exact hr
  | .ok .next, hr => exact hr.elim
  | .ok .brk, hr => exact hr.elim
  | .ok .cont, hr => exact hr.elim
  | .ok (.ret obj), hr =>
    obtain ⟨rfl, rfl⟩ := hr
    have hS : (s.heap.push (frS w)).get? s.heap.objs.size = some (frS w) := Heap.get?_push_size _ rfl
    have hT : Shared.TypeIs { s with heap := s.heap.push (frS w) } (.ref s.heap.objs.size) "set" := ⟨_, hS, rfl⟩
    have hli := PySem.F.called_set.init.lookup
    have hbi := PySem.F.called_set.init.bind (.ref s.heap.objs.size)
    repeat (any_goals (first | assumption | wp_step))
    refine codeAny_mono (codeAny_call_builtin (R := wants (fun r s₂ => r = .none ∧ ∃ h' tk c, s₂ = { s with heap := h', toks := tk } ∧ SetT w h' s.heap.objs.size (fun j => decide (j ∈ ns)) c ∧ c ≤ ns.length ∧ (∀ b o, s.heap.get? b = some o → h'.get? b = some o)) E) PySem.F.called_set.init.plain PySem.F.entry_set_init (check_set_init_1 hT ?_)) fun r₂ s₂ hr₂ => ?_
    · obtain ⟨ol, hol, hcl, nl, hdl⟩ := hl
      obtain ⟨ocls, odict, odata, oslots⟩ := ol
      simp only at hcl hdl
      subst hcl; subst hdl
      have hol' : (s.heap.push (frS w)).get? l = some { cls := .type "list", dict := odict, data := .seq items nl, slots := oslots } := Heap.get?_push_of_some _ hol
      have hsls := PySem.F.sub_list_set
      have hslf := PySem.F.sub_list_frozenset
      have hne : (Value.type "list" == Value.type "dict") = false := by decide
      have hl1 : (s.heap.push (frS w)).IsList l items := ⟨_, hol', rfl, nl, rfl⟩
      unfold Builtin.«set.__init__» noKeywords Builtin.Frozenset.updateFrom
      generalize hPI : pyIter = PI
      wp_walk
      subst hPI
      refine wpAny_pyIter_list hl1 (wpAny_bind (wpAny_runValue ?_))
      have hlS : l < s.heap.objs.size := Heap.lt_size hol
      have hh3 : A.in1.in1.in1.handled = none := by simp [hh]
      have hneI : l ≠ (s.heap.push (frS w)).objs.size := by
        rw [Heap.size_push]
        exact Nat.ne_of_lt (Nat.lt_succ_of_lt hlS)
      have hSf : s.heap.objs.size ∉ [(s.heap.push (frS w)).objs.size, l] := by
        rw [Heap.size_push]
        intro z
        rcases List.mem_cons.mp z with z | z
        · exact Nat.ne_of_lt (Nat.lt_succ_self _) z
        · exact Nat.ne_of_gt hlS (List.mem_singleton.mp z)
      have hval : ∀ (i : Nat) (v : Value), items[i]? = some v → ∃ k t, ns[i]? = some k ∧ v = .str k t := fun i v hv => by
        obtain ⟨y, t, e1, e2⟩ := StrsAre.item hit i v (by rw [Array.getElem?_toList]; exact hv)
        exact ⟨y, t, e2, e1⟩
      have hget : ((s.heap.push (frS w)).push { cls := .type "list_iterator", data := .fields #[.ref l, .int 0 0] }).get? s.heap.objs.size = some (frS w) := Heap.get?_push_of_some _ hS
      refine set_loopT ((Walks.list hh3 _ l hneI items).toS) s.heap.objs.size hSf ns hisz hb hval (items.size - 0) 0 _ (by omega) (Nat.zero_le _) ⟨⟨_, Heap.get?_push_size _ rfl, rfl, rfl⟩, (hl1.push _)⟩ ⟨0, Nat.le_refl 0, setT_new hget⟩ fun s' c' hm hc' hS' => ?_
      obtain ⟨h', g2, d', tk', os'⟩ := s'
      have eg : g2 = s.gens := hm.gens
      have ed : d' = s.drawn := hm.drawn
      have eo : os' = s.os := hm.os
      subst eg; subst ed; subst eo
      show wpAny _ _ _ _ _ _
      refine wpAny_pure ?_
      show wpAny _ _ (ret Value.none) _ _ _
      rw [hisz] at hc'
      refine wpAny_pure ⟨rfl, h', tk', c', rfl, hS', hc', fun b o e => ?_⟩
      have hb0 : b < s.heap.objs.size := Heap.lt_size e
      refine hm.heap b o (fun z => ?_) (Heap.get?_push_of_some _ (Heap.get?_push_of_some _ e))
      rcases List.mem_cons.mp z with z | z
      · exact Nat.ne_of_lt hb0 z
      · have z2 := List.mem_singleton.mp z
        rw [Heap.size_push] at z2
        exact Nat.ne_of_lt (Nat.lt_succ_of_lt hb0) z2
    · match r₂, hr₂ with
      | .error e, hr₂ => exact hr₂
      | .ok .next, hr₂ => exact hr₂.elim
      | .ok .brk, hr₂ => exact hr₂.elim
      | .ok .cont, hr₂ => exact hr₂.elim
      | .ok (.ret r), hr₂ =>
        obtain ⟨rfl, h', tk, c', rfl, hS', hc', hk'⟩ := hr₂
        repeat (any_goals (first | assumption | wp_step))
        exact h _ _ _ hS' hc' hk'
/-! ### sorted -/
theorem strs_of : ∀ (l : List Value), (∀ v ∈ l, ∃ k tk, v = Value.str k tk) → StrsAre l (l.map fun v => keyT (0, v))
  | [], _ => .nil
  | v :: l, h => by
    obtain ⟨k, tk, rfl⟩ := h v List.mem_cons_self
    exact .cons k tk (strs_of l fun u hu => h u (List.mem_cons_of_mem _ hu))
theorem sorted_setT {Q : Value → Shared → Prop} (R : SetT w s.heap a S n) (hh : A.handled = none) (h64 : n < 64)
    (hQ : ∀ s' p (out : Array Value) (c : Nat) (ns : List Str), (∀ b o, s.heap.get? b = some o → s'.heap.get? b = some o) → s'.gens = s.gens → s'.os = s.os → s.heap.objs.size ≤ p → s'.heap.get? p = some (seqObj "list" out c) →
      StrsAre out.toList ns → sortedS ns = true → ns.Nodup → (∀ k, k ∈ ns ↔ S k = true) → ns.length = n → Q (.ref p) s') :
    wpAny (model P w) A (call (.builtin "sorted") [.ref a]) Q E s := by
  obtain ⟨o, es, ep, t, ho, hex, hd, g, nd, hm, hb, hf, hn, hr, hl⟩ := R
  refine Calls.call_function_entry kind_sorted plain_sorted entry_sorted (args_sorted1 _) ?_
  unfold Builtin.«sorted»
  refine wpAny_bind (m := checkCount "sorted" 1 1 _) (wpAny_pure (wpAny_bind (collect_set (A := A.in1) hh ⟨o, ho, hex.1, hd⟩ hf hb hr hl fun s1 vs k1 hz g1 o1 pm => ?_)))
  have hvl : vs.length = n := by rw [pm.length_eq, List.length_map, Array.length_toList]; exact hn
  have hI : StrsAre vs (vs.map fun v => keyT (0, v)) := strs_of vs fun v hv => by
    obtain ⟨e, he, rfl⟩ := List.mem_map.mp (pm.mem_iff.mp hv)
    obtain ⟨k, tk, h1, _⟩ := g e he
    exact ⟨k, tk, h1⟩
  have pk : (vs.map fun v => keyT (0, v)).Perm (es.toList.map keyT) := by
    have q := pm.map fun v => keyT (0, v)
    rw [List.map_map] at q
    exact q
  have hoL : (s1.heap.push (seqObj "list" vs.toArray 0)).get? s1.heap.objs.size = some (seqObj "list" vs.toArray 0) := Heap.get?_push_size _ rfl
  refine wpAny_bind (wpAny_newList ?_ (by rw [hvl, sizeLine_eq]; omega))
  refine wpAny_bind (wpAny_holding (wpAny_call_entry slot_list_sort ⟨_, hoL, rfl⟩ entry_list_sort (list_sort_treeK strKind_oneLt (s := { s1 with heap := s1.heap.push (seqObj "list" vs.toArray 0) }) hoL hI.keysOf (fun v₁ v₂ rest e => keyKind_strs (by rw [← e]; exact hI)) (by rw [hvl]; exact h64) fun st' hp hs => ⟨_, rfl, ?_⟩) (args_list_sort _)))
  obtain ⟨ys, q1, q2, q3⟩ := sorted_out_str hI hp hs
  obtain ⟨e', he'⟩ := sortedHeap_at (vs := vs) (out := (arrOf st').map (·.2)) hoL
  have pn : ys.Perm (es.toList.map keyT) := q2.trans pk
  refine wpAny_pure ⟨_, rfl, hQ _ s1.heap.objs.size ((arrOf st').map (·.2)) e' ys (fun b u e => ?_) g1 o1 hz he' q1 q3 (pn.nodup_iff.mpr nd) (fun k => by rw [pn.mem_iff, ← hm k]) ?_⟩
  · have q := k1 b u e
    have hlt := Heap.lt_size q
    show (sortedHeap (s1.heap.push (seqObj "list" vs.toArray 0)) s1.heap.objs.size vs ((arrOf st').map (·.2))).get? b = some u
    rw [sortedHeap_old (Nat.ne_of_lt hlt) (by rw [size_push']; exact Nat.lt_succ_of_lt hlt)]
    exact Heap.get?_push_of_some _ q
  · rw [pn.length_eq, List.length_map, Array.length_toList]
    exact hn
end
/-! ### the rules -/
/-- the set of the texts ns -/
def SetTx (w : World) (a : Addr) (ns : List Str) : HO := .ext fun h => ∃ c, c ≤ ns.length ∧ SetT w h a (fun j => decide (j ∈ ns)) c
def rSetTx (K : PySem.W.Frag) (w : World) : List V → Hp → VK → Prop := fun xs H Q => ∃ (l : Addr) (ns : List Str), xs = [V.ref l] ∧ SqL K H l (ns.map V.str) ∧ ns.length < 64 ∧ ∀ a, H a = none → Q (.ref a) (upd H a (SetTx w a ns))
def rSortTx (w : World) : List V → Hp → VK → Prop := fun xs H Q => ∃ (a : Addr) (ns : List Str), xs = [V.ref a] ∧ H a = some (SetTx w a ns) ∧ ns.length < 64 ∧ ∀ ys p, sortedS ys = true → ys.Nodup → (∀ k, k ∈ ys ↔ k ∈ ns) → ys.length < 64 → H p = none → Q (.ref p) (upd H p (.lst (ys.map V.str)))
section
variable {X : Cx}
theorem cr_setTx {K : PySem.W.Frag} {w : World} (eK : X.K = K) (ew : X.w = w) (hc : X.calm = true) : CallR X (.type "set") (rSetTx K w) := by
  subst eK ew
  intro pins s σ H xs us Q I r h
  obtain ⟨l, ns, rfl, hl, hf, q⟩ := h
  rw [Vals.ref1 r]
  obtain ⟨its, rv, pl, hz⟩ := I.list hl
  refine call_setT (P := X.prog) (w := X.w) ns (I.ok.hd hc) pl.isList (by simpa using rv.strs) (by unfold scanBound; omega) fun h' tk c R hcl k => ?_
  refine ⟨.ref s.heap.objs.size, upd H s.heap.objs.size (SetTx X.w s.heap.objs.size ns), I.laid (t' := tk) k (Nat.le_refl _) ?_, rfl, q _ (I.hok.fresh (Nat.le_refl _))⟩
  refine ⟨⟨c, hcl, R⟩, ?_, fun h1 h2 p k => ?_⟩
  · obtain ⟨o, _, _, _, ho, _⟩ := R
    exact ⟨o, ho⟩
  · obtain ⟨c2, b1, b2⟩ := p
    exact ⟨c2, b1, b2.at k⟩
theorem cr_sortTx {w : World} (ew : X.w = w) (hc : X.calm = true) : CallR X (.builtin "sorted") (rSortTx w) := by
  subst ew
  intro pins s σ H xs us Q I r h
  obtain ⟨a, ns, rfl, ha, h64, q⟩ := h
  obtain ⟨c, hcl, R⟩ := (I.hok a _ ha).1
  rw [Vals.ref1 r]
  refine sorted_setT R (I.ok.hd hc) (by omega) fun s' p out e ys k g o hp hg hi hs hn hm hl => ?_
  have hlen : (ys.map V.str).length ≤ sizeLine := by rw [List.length_map, sizeLine_eq]; omega
  have hn0 : H p = none := I.hok.fresh hp
  have J : Inv X pins σ (upd H p (.lst (ys.map V.str))) { s with heap := s'.heap, gens := s'.gens, drawn := s'.drawn, toks := s'.toks } :=
    I.call (ch := []) (Un.laid k hp hn0) (I.hok.laid k hp ⟨hlen, out.toList, e, vals_of_strs hi, hg⟩) (by rw [g]; exact I.bare) (fun _ z => nomatch z)
  have es : s' = { s with heap := s'.heap, gens := s'.gens, drawn := s'.drawn, toks := s'.toks } := by
    cases s'
    cases s
    cases o
    rfl
  rw [es]
  exact ⟨.ref p, _, J, rfl, q ys p hs hn (fun k => (hm k).trans decide_eq_true_iff) (by omega) hn0⟩
end
/-- one of two readings -/
theorem pe_or {X : Cx} {e : Expr} {t1 t2 : TE} (h1 : PE X e t1) (h2 : PE X e t2) : PE X e (fun σ H Q => t1 σ H Q ∨ t2 σ H Q) :=
  ⟨fun pins s σ H Q I h => h.elim (fun q => h1.run pins s σ H Q I q) fun q => h2.run pins s σ H Q I q⟩
end Sk
/-! x, *y = a list; try whose body raises nothing -/
namespace Sk
open PySem PySem.Spec PyProof.Rows L2
/-- the first item, a new list of the others -/
def gStarL (K : PySem.W.Frag) (t : TGs) : TG := fun v σ H Q => ∃ (l : Addr) (z : V) (zs : List V), v = .ref l ∧ SqL K H l (z :: zs) ∧ zs.length ≤ 16000 ∧ ∀ D, H D = none → t [z, .ref D] σ (upd H D (.lst zs)) Q
section
variable {X : Cx} {pos ps : Pos} {t1 t2 : Expr} {k : Nat} {t : TGs}
theorem unpack_first {prog : Program} {w : World} {A : Around} {E : Value → Shared → Prop} {s : Shared} {l : Addr} {items : Array Value} {Q : List Value → Shared → Prop} (hh : A.handled = none) (hl : s.heap.IsList l items) (h1 : 1 ≤ items.size) (hz : items.size ≤ 16384)
    (hQ : ∀ (h₂ : Heap) (tk : Nat), (∀ b o, b ≠ s.heap.objs.size → s.heap.get? b = some o → h₂.get? b = some o) → wpAny (model prog w) A (newList (items.toList.drop 1)) (fun d s₂ => Q (items.toList.take 1 ++ [d]) s₂) E { s with heap := h₂, toks := tk }) :
    wpAny (model prog w) A (unpackItems (.ref l) 2 (some 1)) Q E s := by
  have hll : l < s.heap.objs.size := by obtain ⟨o, ho, _⟩ := hl; exact Heap.lt_size ho
  have hlt : l ≠ s.heap.objs.size := Nat.ne_of_lt hll
  unfold unpackItems
  refine wpAny_bind ?_
  unfold notIterableAtAll
  refine wpAny_bind (wpAny_specialOf hl.typeIs slot_list_iter.lookup (wpAny_pure ?_))
  simp only [Bool.false_eq_true, if_false]
  refine wpAny_bind (wpAny_holding (wpAny_pyIter_list hl (wpAny_bind (wpAny_holding (PySem.W.kun_draw hlt 1 0 _ _ ⟨_, Heap.get?_push_size _ rfl, rfl, rfl⟩ (hl.push _) (by omega) fun h₁ hit₁ hs₁ => ?_)))))
  have hl₁ : h₁.IsList l items := (hl.push _).extBut hs₁.extBut hlt
  rw [Nat.zero_add] at hit₁
  obtain ⟨oi, hoi, _⟩ := id hit₁
  obtain ⟨ol, hol, _⟩ := id hl₁
  rw [List.drop_zero]
  have hfl : (items.toList.take 1).length = 1 := by rw [List.length_take, Array.length_toList]; omega
  rw [if_neg (show ¬ ((items.toList.take 1).length < 1) by rw [hfl]; omega)]
  refine wpAny_bind (wpAny_holding (PySem.W.kun_collect (s := { s with heap := h₁ }) (T := "list_iterator") (.inr (.inr (.inl rfl))) (Walks.list (A := A.in1) hh s.heap.objs.size l hlt items) (fun j u st => st.1.typeIs) (k := 1) (by omega) ⟨hit₁, hl₁⟩ (Heap.lt_size hoi) (Heap.lt_size hol) (fun h₂ tk hk => ?_) (by rw [sizeLine_eq]; omega)))
  have hrl : (items.toList.drop 1).length = items.size - 1 := by rw [List.length_drop, Array.length_toList]
  have hmid : (items.toList.drop 1).length - (2 - 1 - 1) = (items.toList.drop 1).length := by omega
  show wpAny _ _ (if (items.toList.drop 1).length < 2 - 1 - 1 then _ else _) _ _ _
  rw [if_neg (by omega)]
  show wpAny _ _ (newList ((items.toList.drop 1).take ((items.toList.drop 1).length - (2 - 1 - 1))) >>= fun d => pure (items.toList.take 1 ++ [d] ++ (items.toList.drop 1).drop ((items.toList.drop 1).length - (2 - 1 - 1)))) _ _ _
  rw [hmid, List.take_length, List.drop_length]
  refine wpAny_bind (wpAny_mono (hQ h₂ tk fun b o hb e => hk b o hb (hs₁.extBut b o hb (Heap.get?_push_of_some _ e))) (fun d s₂ q => ?_) fun _ _ z => z)
  rw [List.append_nil]
  exact wpAny_pure q
theorem pg_starL (hc : X.calm = true) (h : PGs X [t1, t2] t) (hn : (assignEach [t1, .Starred t2 ps] X.env).length = 2 := by rfl) (hst : (assignEach [t1, .Starred t2 ps] X.env).findIdx? (·.1) = some 1 := by rfl)
    (he : (assignEach [t1, .Starred t2 ps] X.env).map (·.2) = (assignEach [t1, t2] X.env).map (·.2) := by rfl) : PG X (.Tuple [t1, .Starred t2 ps] k pos) (gStarL X.K t) := by
  refine ⟨fun pins s σ H v u Q I r hw => ?_⟩
  obtain ⟨l, z, zs, rfl, hq, hl, hw⟩ := hw
  cases r
  obtain ⟨its, rv, pl, hz⟩ := I.list hq
  cases rv with
  | cons r1 r2 =>
    rename_i u1 us
    have hul := r2.length
    rw [PyProof.Rows.assign_Tuple]
    refine wpAny_bind (wpAny_standAt ?_)
    unfold unpack
    rw [hn, hst]
    refine wpAny_bind (wpAny_holding (unpack_first (I.ok.hd hc) pl.isList (by simp) (by simp; omega) fun h₂ tk hk => ?_))
    have k2 : ∀ b o, s.heap.get? b = some o → h₂.get? b = some o := fun b o e => hk b o (Nat.ne_of_lt (Heap.lt_size e)) e
    have I1 : Inv X pins σ H { s with heap := h₂, toks := tk } := I.kept k2
    refine wpAny_newList ?_ (by simp; rw [sizeLine_eq]; omega)
    have e1 : ((u1 :: us).toArray.toList.drop 1).toArray = us.toArray := by simp
    have e2 : (u1 :: us).toArray.toList.take 1 ++ [Value.ref h₂.objs.size] = [u1, .ref h₂.objs.size] := by simp
    show wpAny _ _ (assignInOrder _ ((u1 :: us).toArray.toList.take 1 ++ [Value.ref h₂.objs.size])) _ _ _
    rw [he, e2]
    have ho : (h₂.push { cls := .type "list", data := .seq ((u1 :: us).toArray.toList.drop 1).toArray }).get? h₂.objs.size = some (seqObj "list" us.toArray 0) := by
      rw [e1]
      exact Heap.get?_push_size _ rfl
    have J : Inv X pins σ (upd H h₂.objs.size (.lst zs)) { s with heap := h₂.push { cls := .type "list", data := .seq ((u1 :: us).toArray.toList.drop 1).toArray }, toks := tk } :=
      I1.laid (t' := tk) (fun b u e => Heap.get?_push_of_some _ e) (Nat.le_refl _) (show ObjOk X.prog X.w _ _ _ (.lst zs) from ⟨by rw [sizeLine_eq]; omega, us, 0, r2, ho⟩)
    exact h.run pins _ σ _ [z, .ref h₂.objs.size] _ Q J (.cons r1 (.cons rfl .nil)) (hw _ (I1.hok.fresh (Nat.le_refl _)))
/-- try: nothing is raised -/
theorem ps_try_nox {body : List Stmt} {h0 : ExceptHandler} {tb : TS} (hb : PSs X body tb) (hx : ∀ e s, X.xe e s → False := by intro _ _ z; exact z) : PS X (.Try body [h0] [] [] pos) tb := by
  refine ⟨fun pins s σ H D I h => wpAny_Try_except (wpAny_mono (hb.run pins s σ H D I h) (fun f s1 hsp => ?_) fun e s1 he => (hx e s1 he).elim)⟩
  cases f with
  | next => exact wpAny_execs_nil hsp
  | brk => exact hsp
  | cont => exact hsp
  | ret u => exact hsp
/-- sep.join(texts), K told -/
def rJoin (K : PySem.W.Frag) : V → List V → Hp → VK → Prop := fun x xs H Q => ∃ a p, ∃ ys : List Str, x = .str a ∧ xs = [.ref p] ∧ (SqL K H p (ys.map V.str) ∨ SqT K H p (ys.map V.str)) ∧ (ys.map (·.length)).sum + ys.length * a.length ≤ 16777216 ∧ Q (.str (Txt.join a ys)) H
theorem peJoin {K : PySem.W.Frag} {o e : Expr} {to te : TE} {apos : Pos} (eK : X.K = K) (ho : PE X o to) (he : PE X e te) (hs : starEach [e] X.env = [(false, eval e X.env)] := by rfl) (hbase : attributeBase o "join" X.env (eval o X.env) = eval o X.env := by rfl) (hline : (apos.endLine == pos.line) = true := by rfl) :
    PE X (.Call (.Attribute o "join" apos) [e] [] pos) (tM1 (rJoin K) to te) := by
  subst eK
  exact pe_join ho he hs hbase hline
end
end Sk
/-! the end of a law that asks for repr of lists: the promise of `law` is given where no repr is under way -/
namespace Sk
open PySem PySem.Spec PyProof.Rows L2
/-- what a function keeps when it is called with no repr under way -/
def FnG (P : Program) (w : World) (K : PySem.W.Frag) (mg : Str → Option Value) (base : Heap) (k : Nat) (f : Addr) (fd : FuncData) (ps : List Str) (sp : Sp) : Prop :=
  ∀ (A : Around) (outer : List Env) (s : Shared) (H : Hp) (args : Args) (us : List Value) (vs : List V) (Q : VK) (E : XK), A.guards = some [] → Room k A → Env0 P w K mg base A outer s H → BindsTo s fd args (ps.zip us) → Vals vs us → sp vs H Q E →
    codeAny (model P w) A (.call (.ref f) args) (CR CX0 outer P w H s Q E) s
section
variable {P : Program} {w : World} {K : PySem.W.Frag} {mg : Str → Option Value} {base : Heap}
theorem fnG_of {x qual : Str} {params : Arguments} {body : List Stmt} {scope : Scope} {f : Addr} {fd : FuncData} {N ps : List Str} {k : Nat} {sp : Sp} (F : FunD K x qual params body scope [] [] f fd) (S : FnScope N ps scope) (len : ∀ vs H Q E, sp vs H Q E → vs.length = ps.length)
    (hbody : ∀ (cdv : Value) (A : Around) (outer : List Env) (s : Shared) (H : Hp) (vs : List V) (Q : VK) (E : XK), A.guards = some [] → Room k (A.deeper (envOfC qual scope s.heap.objs.size f cdv)) → sp vs H Q E →
      ∃ t, PSs (cxOf CX0 P w K mg base N qual scope f cdv A outer s H E) body t ∧ t { nx := fun _ H' => Q .non H', rt := Q } (L2.start N vs) H) : FnG P w K mg base (k + 1) f fd ps sp := by
  obtain ⟨oc, od, dV, kV, doc, pm, an, cdv, ct, osl, rfl, lk, hcd, _, _⟩ := F.ex
  intro A outer s H args us vs Q E hg hr e0 hb hv hsp
  have up : ∀ b o, base.get? b = some o → s.heap.get? b = some o := fun b o e => (e0.bs b o e).1
  have kin : K.In s.heap := e0.mod.kin.keeps up
  have cells : ∀ q ∈ ps.zip us, scope.names.lookup q.1 = some .local ∨ (scope.names.lookup q.1 = some .cell ∧ ((cellsFrom (s.heap.objs.size + 1) scope.names []).lookup q.1).isSome = true) := by
    rintro ⟨y, v⟩ hq
    exact (S.par y (List.of_mem_zip hq).1).imp id fun z => ⟨z, PySem.W.cellsFrom_some _ _ _ (.inl z)⟩
  refine codeAny_call_function hr.depth (kin _ _ lk) rfl S.co S.gen rfl (PySem.W.codeRec_of kin hcd) (hb _ _ _ _ ?_)
  refine wpAny_newFunctionEnv_cells S.kind cells fun env he s1 x => ?_
  subst he
  obtain ⟨t, ht, hq⟩ := hbody cdv A outer s H vs Q E hg (hr.deeper _) hsp
  have J := inv_start S hr.hd e0 (len _ _ _ _ hsp) hv x (CX := CX0) (E := E)
  refine ⟨(e0.mod.nolimit.keeps up).keeps x.toInCall.keep, codeAny_func (wpAny_mono (ht.run [] s1 (L2.start N vs) H _ J hq) (fun fl s' hs => ?_) fun _ _ hs => hs)⟩
  cases fl with
  | ret u =>
    obtain ⟨v, σ', H', J', rv, q⟩ := hs
    exact ⟨v, H', J'.os, J'.bare, J'.base, J'.hok, rv, q⟩
  | next =>
    obtain ⟨σ', H', J', q⟩ := hs
    exact ⟨V.non, H', J'.os, J'.bare, J'.base, J'.hok, rfl, q⟩
  | brk =>
    obtain ⟨_, _, _, q⟩ := hs
    exact False.elim q
  | cont =>
    obtain ⟨_, _, _, q⟩ := hs
    exact False.elim q
end
/-! ### the start -/
/-- what is tracked when the law is called: the script (if it is not in K), the empty tables -/
def startH (K : PySem.W.Frag) (a : Addr) (o : Obj) (xs : List V) (ts : List Addr) : Hp := fun b => if b = a ∧ K.lookup a = none then some (.frz o (.lst xs)) else if b ∈ ts then some (.tbl #[]) else none
section
variable {P : Program} {w : World} {K : PySem.W.Frag} {mg mb : Str → Option Value} {k : Nat} {fa a : Addr} {cs : List (Addr × Addr)} {fd : FuncData} {x : Str} {sp : Sp} {s₁ : Shared} {vs : List Value} {ns : List Int}
theorem law_callG (KX : K.In s₁.heap) (hns : s₁.heap.Ns mainGlobals mg) (hb : s₁.heap.Ns builtinsNs mb) (hbb : ∀ x : Str, x ≠ "__name__" → mb x = bootBuiltins x) (hlim : s₁.heap.NoLimit) (hg : s₁.gens = #[])
    (hT : ∀ p ∈ cs, s₁.heap.get? p.2 = some { cls := .none, data := .fields #[] }) (nT : ∀ p ∈ cs, K.lookup p.2 = none) (C : ∀ p ∈ cs, PySem.W.CodeHd s₁.heap p.1 p.2)
    (hbm : ∃ (bm : Addr) (ob : Obj), mg "__builtins__" = some (.ref bm) ∧ bm ≠ builtinsNs ∧ s₁.heap.get? bm = some ob ∧ ob.cls = .type "module" ∧ ob.dict = some builtinsNs ∧ ob.data = .plain)
    (ha : s₁.heap.get? a = some { cls := .type "list", data := .seq vs.toArray }) (hi : IntsAre vs ns) (hl : ns.length ≤ sizeLine) (hr : Room k callerA)
    (F : ∀ base : Heap, K.In base → base.Ns mainGlobals mg → (∀ p ∈ cs, LamX.TabB base mg p.1 p.2) → FnG P w K mg base k fa fd [x] sp) (hbind : ∀ (s : Shared) (u : Value), BindsTo s fd ⟨[u], []⟩ [(x, u)])
    (hsp : ∀ H : Hp, (∀ p ∈ cs, H p.2 = some (.tbl #[])) → (∀ b, H b = none ∨ (∃ o xs, H b = some (.frz o (.lst xs))) ∨ H b = some (.tbl #[])) → SqL K H a (ns.map V.int) → sp [.ref a] H (fun v _ => v = .bl true) fun _ _ _ => False) :
    codeAny (model P w) callerA (.call (.ref fa) ⟨[.ref a], []⟩) (fun r s' => r = .ok (.ret (.bool true)) ∧ OldK s₁.heap s'.heap ∧ s'.os = s₁.os ∧ AllBare s'.gens) s₁ := by
  let O : Obj := { cls := .type "list", data := .seq vs.toArray }
  let ts := cs.map (·.2)
  let H := startH K a O (ns.map V.int) ts
  have tab : ∀ b ∈ ts, s₁.heap.get? b = some { cls := .none, data := .fields #[] } := fun b hb => by
    obtain ⟨p, hp, rfl⟩ := List.mem_map.mp hb
    exact hT p hp
  have an : a ∉ ts := fun z => by
    have e := tab a z
    rw [ha] at e
    cases e
  -- what stands at a place
  have look : ∀ b, (b = a ∧ K.lookup a = none ∧ H b = some (.frz O (.lst (ns.map V.int)))) ∨ (b ∈ ts ∧ H b = some (.tbl #[])) ∨ (H b = none ∧ b ∉ ts ∧ (b = a → K.lookup a ≠ none)) := fun b => by
    by_cases h1 : b = a ∧ K.lookup a = none
    · exact .inl ⟨h1.1, h1.2, if_pos h1⟩
    · by_cases h2 : b ∈ ts
      · exact .inr (.inl ⟨h2, (if_neg h1).trans (if_pos h2)⟩)
      · exact .inr (.inr ⟨(if_neg h1).trans (if_neg h2), h2, fun z n => h1 ⟨z, n⟩⟩)
  have ofTab : ∀ p ∈ cs, H p.2 = some (.tbl #[]) := fun p hp => by
    have hm : p.2 ∈ ts := List.mem_map.mpr ⟨p, hp, rfl⟩
    rcases look p.2 with ⟨e, _⟩ | ⟨_, q⟩ | ⟨_, q, _⟩
    · exact absurd (e ▸ hm) an
    · exact q
    · exact absurd hm q
  -- other objects are not tracked
  have free : ∀ {b : Addr} {o : Obj}, s₁.heap.get? b = some o → (∀ us n, o.data ≠ .seq us n) → o.data ≠ .fields #[] → H b = none := fun {b o} e h1 h2 => by
    rcases look b with ⟨z, _⟩ | ⟨z, _⟩ | ⟨q, _⟩
    · rw [z, ha] at e
      cases e
      exact absurd rfl (h1 _ _)
    · rw [tab b z] at e
      cases e
      exact absurd rfl h2
    · exact q
  have nsUp : ∀ {b : Addr} {m : Str → Option Value}, s₁.heap.Ns b m → (hidT s₁.heap H).Ns b m := fun {b m} ⟨o, es, ep, e, d, r⟩ =>
    ⟨o, es, ep, hidT_get e (free e (fun us n z => by rw [d] at z; cases z) fun z => by rw [d] at z; cases z), d, r⟩
  have kUp : K.In (hidT s₁.heap H) := fun b o e => hidT_get (KX b o e) (by
    rcases look b with ⟨z1, z2, _⟩ | ⟨z, _⟩ | ⟨q, _⟩
    · rw [z1, z2] at e
      cases e
    · obtain ⟨p, hp, rfl⟩ := List.mem_map.mp z
      rw [nT p hp] at e
      cases e
    · exact q)
  have md : L2.Mod K mg (hidT s₁.heap H) := ⟨kUp, nsUp hns, ⟨mb, nsUp hb, hbb⟩, let ⟨mc, h1, h2⟩ := hlim; ⟨mc, nsUp h1, h2⟩⟩
  have tb : ∀ p ∈ cs, LamX.TabB (hidT s₁.heap H) mg p.1 p.2 := fun p hp => by
    obtain ⟨og, _, _, eg, dg, _⟩ := hns
    refine ⟨?_, ?_, fun z => ?_⟩
    · obtain ⟨o, us, file, tf, flags, tg, inF, text, tt, e1, r1, r2, r3, rest⟩ := C p hp
      refine ⟨o, us, file, tf, flags, tg, inF, text, tt, hidT_get e1 (free e1 (fun vs n z => by rw [r2] at z; cases z) fun z => ?_), r1, r2, r3, rest⟩
      rw [r2] at z
      cases z
      simp at r3
    · obtain ⟨bm, ob, b1, b2, b3, b4, b5, b6⟩ := hbm
      refine ⟨bm, ob, b1, b2, fun q => ?_, fun q => ?_, hidT_get b3 (free b3 (fun us n z => by rw [b6] at z; cases z) fun z => by rw [b6] at z; cases z), b4, b5, b6⟩
      · rw [q, eg] at b3
        cases b3
        rw [dg] at b6
        cases b6
      · rw [q, hT p hp] at b3
        cases b3
        cases b6
    · rw [z, hT p hp] at eg
      cases eg
      cases dg
  have hok : HOk P w H s₁.heap := fun b u e => by
    rcases look b with ⟨z1, _, q⟩ | ⟨z, q⟩ | ⟨q, _⟩
    · rw [q] at e
      cases e
      rw [z1]
      exact ⟨ha, by rw [List.length_map]; exact hl, vs, _, vals_ints hi, ha⟩
    · rw [q] at e
      cases e
      exact tab b z
    · rw [q] at e
      cases e
  have hS : SqL K H a (ns.map V.int) := by
    cases hk : K.lookup a with
    | none => exact .inl (.inr ⟨O, if_pos ⟨rfl, hk⟩⟩)
    | some o =>
      have e := KX a o hk
      rw [ha] at e
      cases e
      exact .inr ⟨_, vs.toArray, _, hk, rfl, rfl, rfl, by rw [List.size_toArray, hi.length]; exact hl, by simpa using vals_ints hi⟩
  have e0 : Env0 P w K mg (hidT s₁.heap H) callerA [] s₁ H := ⟨rfl, md, fun b o e => of_hidT e, Nat.le_of_eq (hidT_size _ _), trivial, fun b hb => absurd (show b ∈ ([] : List Addr) from hb) (by simp), hok, .of_eq hg⟩
  have st : ∀ b, H b = none ∨ (∃ o xs, H b = some (.frz o (.lst xs))) ∨ H b = some (.tbl #[]) := fun b => by
    rcases look b with ⟨_, _, q⟩ | ⟨_, q⟩ | ⟨q, _⟩
    · exact .inr (.inl ⟨_, _, q⟩)
    · exact .inr (.inr q)
    · exact .inl q
  refine codeAny_mono (F _ kUp (nsUp hns) tb callerA [] s₁ H ⟨[.ref a], []⟩ [.ref a] [.ref a] _ _ rfl hr e0 (hbind s₁ (.ref a)) (.cons rfl .nil) (hsp H ofTab st hS)) fun r s' h => ?_
  match r, h with
  | .error e, h => exact False.elim h
  | .ok .next, h => exact False.elim h
  | .ok .brk, h => exact False.elim h
  | .ok .cont, h => exact False.elim h
  | .ok (.ret u), h =>
    obtain ⟨v, H', os, bare, un, hok', r', q⟩ := h
    obtain rfl : v = .bl true := q
    obtain rfl : u = Value.bool true := r'
    -- what became of each object
    have now : ∀ b o, s₁.heap.get? b = some o → (b ∉ ts ∧ s'.heap.get? b = some o) ∨ ∃ more : Array Value, b ∈ ts ∧ s'.heap.get? b = some { cls := .none, data := .fields more } := fun b o e => by
      rcases look b with ⟨z, _, q⟩ | ⟨z, q⟩ | ⟨q, z, _⟩
      · obtain ⟨e2, _⟩ := hok' b _ (un.frzs b O _ q)
        rw [z, ha] at e
        cases e
        exact .inl ⟨z ▸ an, e2⟩
      · obtain ⟨more, z2⟩ := un.tbls b #[] q
        exact .inr ⟨_, z, hok' b _ z2⟩
      · exact .inl ⟨z, un.keep b o e q (by intro y; exact absurd (show b ∈ ([] : List Addr) from y) (by simp)) (by simp)⟩
    refine ⟨rfl, ⟨fun b o e => ?_, fun b o e => ?_⟩, os, bare⟩
    · rcases now b o e with ⟨_, y⟩ | ⟨more, z, y⟩
      · exact .inl y
      · obtain ⟨p, hp, rfl⟩ := List.mem_map.mp z
        rw [hT p hp] at e
        cases e
        exact .inr (.inl ⟨((C p hp).tab (hT p hp)).isCodeTable, rfl, #[], more, rfl, by rw [Array.empty_append]; exact y⟩)
    · rcases now b o e with ⟨_, y⟩ | ⟨more, _, y⟩
      · exact ⟨o, y⟩
      · exact ⟨_, y⟩
end
/-! ### the law -/
/-- what is known of the law's promise at the head's heap h -/
def LawG (l : PySem.W.OpenLaw) (w : World) (K : PySem.W.Frag) (k n : Nat) (x : Str) (mg : Str → Option Value) (fa : Addr) (h : Heap) : Prop :=
  ∃ (fd : FuncData) (cs : List (Addr × Addr)) (sp : Sp), (∀ p ∈ cs, h.get? p.2 = some { cls := .none, data := .fields #[] }) ∧ (∀ p ∈ cs, K.lookup p.2 = none) ∧ (∀ p ∈ cs, PySem.W.CodeHd h p.1 p.2) ∧ (∀ (s : Shared) (u : Value), BindsTo s fd ⟨[u], []⟩ [(x, u)]) ∧
    (∀ (H : Hp) (a : Addr) (ns : List Int), ns.length ≤ n → (∀ z ∈ ns, Builtin.Int.intBits z ≤ 1048576) → (∀ p ∈ cs, H p.2 = some (.tbl #[])) → (∀ b, H b = none ∨ (∃ o xs, H b = some (.frz o (.lst xs))) ∨ H b = some (.tbl #[])) → SqL K H a (ns.map V.int) → sp [.ref a] H (fun v _ => v = .bl true) fun _ _ _ => False) ∧
    ∀ base : Heap, K.In base → base.Ns mainGlobals mg → (∀ p ∈ cs, LamX.TabB base mg p.1 p.2) → FnG l.prog w K mg base k fa fd [x] sp
theorem walk_ofG {l : PySem.W.OpenLaw} {n k : Nat} {q : Program} {loose : List Str} {XP : (Str → Option Value) → Heap → Prop} {YP : World → Heap → Prop} {d : DefRec} {x : Str}
    (hn : l.most = some n) (hn2 : n ≤ sizeLine) (hdf : d.params.defaults = []) (hr : Room k callerA)
    (F : ∀ (w : World) (mg : Str → Option Value) (fa : Addr) (h : Heap), YP w h → h.Ns mainGlobals mg → mg d.name = some (.ref fa) → ∃ K : PySem.W.Frag, K.In h ∧ LawG l w K k n x mg fa h) :
    PySem.W.WalkO q loose XP YP l.row.toRowW d [] (fun f vs => PySem.call f vs) := by
  refine Att.attach_callB hn hdf fun w s₀ s₁ mg mb fa o pm cd doc a vs ns G Y ho hd hcd hmg hobj hints hlen hbits hg => ?_
  obtain ⟨K, KX, fd, cs, sp, hT, nT, C, hb, hsp, hF⟩ := F w mg fa _ Y G.T.g hmg
  exact law_callG KX G.T.g G.T.b G.T.builtins G.T.nolimit hg hT nT C G.T.bmain hobj hints (Nat.le_trans hlen hn2) hr hF hb (fun H hH hst hS => hsp H a ns hlen hbits hH hst hS)
/-! ### from the head's facts -/
theorem lam_code {K : PySem.W.Frag} {x qual : Str} {params : Arguments} {body : List Stmt} {scope : Scope} {dvs : List V} {kws : List (Str × V)} {p : Str × Option Str} {fd : FuncData} (F : FunD K x qual params body scope dvs kws (He.fAd K p) fd) :
    ∀ (fd2 : FuncData) (oc : Value) (od : Option Addr) (osl : Array (Option Value)), K.lookup (He.fAd K p) = some ⟨oc, od, .func fd2, osl⟩ → fd2.code = .ref (He.codeOf K p) := by
  obtain ⟨oc, od, dV, kV, doc, pm, an, cdv, ct, osl, rfl, lk, hcd, _, _⟩ := F.ex
  obtain ⟨c, rfl⟩ := He.codeIn_ref hcd
  intro fd2 oc2 od2 osl2 lk2
  rw [lk] at lk2
  cases lk2
  rw [He.codeOf_eq lk rfl]
theorem tabs_start {H : Hp} {T : List (Addr × Str)} (h : ∀ p ∈ T, H p.1 = some (.tbl #[])) : LamX.Tabs T H := fun p hp => ⟨#[], h p hp, trivial, fun _ _ e => by cases e⟩
theorem Vals.getD {vs : List V} {us : List Value} (r : Vals vs us) (i : Nat) : RelV (vs.getD i .non) (us.getD i .none) := by
  cases h : vs[i]? with
  | none =>
    have h2 : us[i]? = none := by
      rw [List.getElem?_eq_none_iff] at h ⊢
      rw [← r.length]
      exact h
    rw [List.getD_eq_getElem?_getD, List.getD_eq_getElem?_getD, h, h2]
    rfl
  | some v =>
    obtain ⟨u, hu, ru⟩ := r.get h
    rw [List.getD_eq_getElem?_getD, List.getD_eq_getElem?_getD, h, hu]
    exact ru
/-- keywords, no defaults -/
theorem kbn_of {K : PySem.W.Frag} {x qual : Str} {params : Arguments} {body : List Stmt} {scope : Scope} {f : Addr} {fd : FuncData} {ps ks : List Str} {n : Nat} {g : List Value → List Value → List Value} {gV : List V → List V → List V} (F : FunD K x qual params body scope [] [] f fd)
    (h : ∀ (kV doc pm : Value) (an : Option Addr) (cdv ct : Value) (us ws : List Value), us.length = n → ws.length = ks.length → bindArgs (PySem.W.fnOf x qual params body scope .none kV doc pm an cdv ct) ⟨us, ks.zip ws⟩ = pure (ps.zip (g us ws)))
    (rel : ∀ {vs : List V} {us : List Value} {zs : List V} {ws : List Value}, Vals vs us → Vals zs ws → Vals (gV vs zs) (g us ws)) : KBn K fd ps n ks g gV := by
  obtain ⟨oc, od, dV, kV, doc, pm, an, cdv, ct, osl, rfl, lk, hcd, hD, hK⟩ := F.ex
  rcases hD with ⟨_, rfl⟩ | ⟨e, _⟩
  · exact ⟨fun s us ws _ l1 l2 => .of_eq (h kV doc pm an cdv ct us ws l1 l2), rel⟩
  · exact absurd rfl e
end Sk
namespace Sk
open PySem PySem.Spec PyProof.Rows L2
def topS (i : Nat) : Stmt := PySem.Challenge.pw_splitstock_k41_catalogues_written.main.body.getD i (.Pass ⟨0, 0, 0, 0⟩)
abbrev FnP (K : PySem.W.Frag) (x : Str) (st : Stmt) (f : Addr) (fd : FuncData) : Prop := FunD K x x (defArgs st) (defBody st) (defScope st) [] [] f fd
structure Tx (K : PySem.W.Frag) (mg : Str → Option Value) : Prop where
  c_COMMA : ∃ t, mg "COMMA" = some (.str ", " t)
  c_DIGITS : ∃ t, mg "DIGITS" = some (.str "0123456789" t)
  c_LETTERS : ∃ t, mg "LETTERS" = some (.str "abcdefghijklmnopqrstuvwxyz" t)
  c_MOST_DIGITS : ∃ t, mg "MOST_DIGITS" = some (.int 60 t)
  c_MOST_LETTERS : ∃ t, mg "MOST_LETTERS" = some (.int 8 t)
  c_SPACE : ∃ t, mg "SPACE" = some (.str " " t)
  n_ValueError : mg "ValueError" = none
  n_abs : mg "abs" = none
  n_all : mg "all" = none
  n_any : mg "any" = none
  n_bool : mg "bool" = none
  n_dict : mg "dict" = none
  n_enumerate : mg "enumerate" = none
  n_int : mg "int" = none
  n_isinstance : mg "isinstance" = none
  n_len : mg "len" = none
  n_list : mg "list" = none
  n_max : mg "max" = none
  n_min : mg "min" = none
  n_range : mg "range" = none
  n_repr : mg "repr" = none
  n_reversed : mg "reversed" = none
  n_set : mg "set" = none
  n_sorted : mg "sorted" = none
  n_str : mg "str" = none
  n_sum : mg "sum" = none
  n_tuple : mg "tuple" = none
  n_type : mg "type" = none
  n_zip : mg "zip" = none
end Sk
namespace Sk
open PySem PySem.Spec PyProof.Rows L2
abbrev s_show_catalogue : Stmt := topS 3
abbrev N_show_catalogue : List Str := ["catalogue", "name", "weight", "parts"]
theorem sc_show_catalogue : FnScope N_show_catalogue ["catalogue"] (defScope s_show_catalogue) := ⟨rfl, rfl, rfl, by decide +kernel, rfl, by decide +kernel, by decide +kernel⟩
/-- a name: its signs, its length -/
def nameB' (x : Str) : Prop := x.length ≤ 8 ∧ ∀ c ∈ x.cps.toList, 97 ≤ c ∧ c ≤ 122
/-- the text of an entry, of a catalogue -/
def entT (e : Ent) : Str := Txt.join (Str.ofString " ") ([e.name, Str.ofString (toString e.w)] ++ e.parts)
def catT (es : List Ent) : Str := Txt.join (Str.ofString ", ") (es.map entT)
/-- an entry that can be written -/
structure TxE (e : Ent) : Prop where
  name : nameB' e.name
  w0 : 0 < e.w
  w1 : e.w < 10 ^ 60
  few : e.parts.length ≤ 6
  parts : ∀ p ∈ e.parts, nameB' p
def sp_show_catalogue (Tb : List (Addr × Str)) (K : PySem.W.Frag) : Sp := fun vs H Q _ => ∃ (a : Addr) (xs : List V) (es : List Ent), vs = [.ref a] ∧ SqL K H a xs ∧ CatAt H xs es ∧ (∀ e ∈ es, TxE e) ∧ es.length ≤ 100 ∧ ∀ H', Gr Tb H H' → Q (.str (catT es)) H'
theorem joinC_len : ∀ (S : List Nat) (ps : List (List Nat)), (TL.joinL S ps).length ≤ (ps.map (·.length)).sum + ps.length * S.length
  | _, [] => Nat.zero_le _
  | _, [p] => by
    show p.length ≤ _
    rw [List.map_cons, List.sum_cons]
    omega
  | S, p :: q :: r => by
    have ih := joinC_len S (q :: r)
    show (p ++ (S ++ TL.joinL S (q :: r))).length ≤ _
    rw [List.length_append, List.length_append, List.map_cons, List.sum_cons, List.length_cons (as := q :: r), Nat.succ_mul]
    omega
theorem sumC_le {l : List Nat} {m : Nat} (h : ∀ x ∈ l, x ≤ m) : l.sum ≤ l.length * m := by
  induction l with
  | nil => exact Nat.zero_le _
  | cons x l ih =>
    rw [List.sum_cons, List.length_cons, Nat.succ_mul]
    have h1 := h x (List.mem_cons_self ..)
    have h2 := ih fun y hy => h y (List.mem_cons_of_mem _ hy)
    omega
theorem numC_len {i : Int} (h0 : 0 < i) (h1 : i < 10 ^ 60) : (Str.ofString (toString i)).length ≤ 101 := shown_int (by
  have : i.natAbs < 10 ^ 60 := by omega
  exact Nat.lt_trans this (by decide))
theorem logC {i : Int} (h0 : 0 < i) (h1 : i < 10 ^ 60) : i.natAbs.log2 < 1920 := by
  rw [Nat.log2_lt (by omega)]
  have : i.natAbs < 10 ^ 60 := by omega
  exact Nat.lt_trans this (by decide)
/-- the words of an entry -/
def entW (e : Ent) : List Str := [e.name, Str.ofString (toString e.w)] ++ e.parts
theorem entW_len {e : Ent} (t : TxE e) : (entW e).length ≤ 8 ∧ ∀ x ∈ entW e, x.length ≤ 101 := by
  unfold entW
  refine ⟨?_, fun x hx => ?_⟩
  · rw [List.length_append]
    have := t.few
    show 2 + e.parts.length ≤ 8
    omega
  · rcases List.mem_append.mp hx with hx | hx
    · rcases List.mem_cons.mp hx with rfl | hx
      · exact Nat.le_trans t.name.1 (by decide)
      · rw [List.mem_singleton.mp hx]
        exact numC_len t.w0 t.w1
    · exact Nat.le_trans (t.parts x hx).1 (by decide)
theorem entW_size {e : Ent} (t : TxE e) : ((entW e).map (·.length)).sum + (entW e).length * 1 ≤ 900 := by
  obtain ⟨h1, h2⟩ := entW_len t
  have h3 := sumC_le (l := (entW e).map (·.length)) (m := 101) fun x hx => by
    obtain ⟨z, hz, rfl⟩ := List.mem_map.mp hx
    exact h2 z hz
  rw [List.length_map] at h3
  omega
open TL in
theorem join_size {y : Str} {ps : List Str} {m : Nat} (h : (ps.map (·.length)).sum + ps.length * y.length ≤ m) : (Txt.join y ps).length ≤ m := by
  rw [len_tl, join_eq, tl_join]
  refine Nat.le_trans (joinC_len _ _) ?_
  have e : (ps.map tl).map (·.length) = ps.map (·.length) := by
    rw [List.map_map]
    exact List.map_congr_left fun x _ => (len_tl x).symm
  rw [e, List.length_map, ← len_tl]
  exact h
theorem entT_len {e : Ent} (t : TxE e) : (entT e).length ≤ 900 := join_size (entW_size t)
theorem catT_size {es : List Ent} (ht : ∀ e ∈ es, TxE e) (hz : es.length ≤ 100) : ((es.map entT).map (·.length)).sum + (es.map entT).length * 2 ≤ 100000 := by
  have h3 := sumC_le (l := (es.map entT).map (·.length)) (m := 900) fun x hx => by
    obtain ⟨z, hz, rfl⟩ := List.mem_map.mp hx
    obtain ⟨e, he, rfl⟩ := List.mem_map.mp hz
    exact entT_len (ht e he)
  simp only [List.length_map] at h3 ⊢
  omega
theorem strC_inj : ∀ {a b : List Str}, a.map V.str = b.map V.str → a = b
  | [], [], _ => rfl
  | [], _ :: _, h => by cases h
  | _ :: _, [], h => by cases h
  | x :: a, y :: b, h => by
    rw [List.map_cons, List.map_cons] at h
    injection h with h1 h2
    injection h1 with h1
    rw [h1, strC_inj h2]
theorem entAt_fun {H : Hp} {v : V} {e e' : Ent} (h : EntAt H v e) (h' : EntAt H v e') : e = e' := by
  obtain ⟨t, l, rfl, a1, a2⟩ := h
  obtain ⟨t', l', z, b1, b2⟩ := h'
  cases z
  have k1 := a1.symm.trans b1
  simp only [Option.some.injEq, HO.tup.injEq, List.cons.injEq, V.str.injEq, V.int.injEq, V.ref.injEq, and_true] at k1
  obtain ⟨z1, z2, z3⟩ := k1
  subst z3
  have k2 := a2.symm.trans b2
  simp only [Option.some.injEq, HO.lst.injEq] at k2
  have z4 := strC_inj k2
  cases e
  cases e'
  simp only at z1 z2 z4
  rw [z1, z2, z4]
theorem ents_text {H : Hp} {es0 : List Ent} : ∀ {xs ys : List V} {es : List Ent}, CatAt H xs es → Paired (fun x y => ∃ e ∈ es0, EntAt H x e ∧ y = V.str (entT e)) xs ys → ys = (es.map entT).map V.str
  | _, _, _, .nil, .nil => rfl
  | _, _, _, .cons a c, .cons ⟨e, _, h, e2⟩ p => by
    rw [ents_text c p, e2, entAt_fun h a]
    rfl
section
variable {P : Program} {w : World} {K : PySem.W.Frag} {mg : Str → Option Value} {base : Heap} {Tb : List (Addr × Str)}
theorem ok_show_catalogue {f : Addr} {fd : FuncData} (F : FnP K "show_catalogue" s_show_catalogue f fd) (T : Tx K mg) : FnOk P w K mg base CX0 1 f fd ["catalogue"] (sp_show_catalogue Tb K) := by
  refine F.ok sc_show_catalogue (fun vs H Q E h => ?_) (fun cdv A outer s H vs Q E hr h => ?_)
  · obtain ⟨_, _, _, rfl, _⟩ := h
    rfl
  · obtain ⟨a, xs, es, rfl, ha, hc, ht, hz, k⟩ := h
    refine ⟨_, PSs.nox (pss_one (ps_ret (peJoin (K := K) rfl (pe_gs T.c_COMMA) (pe_lc (own := [("name", 1), ("weight", 2), ("parts", 3)]) (g := (gTup K 3 (gCons (gName 1) (gCons (gName 2) (gCons (gName 3) gNil))))) (tt := tYes) rfl sc_show_catalogue.nd (piL (K := K) rfl (pv 0)) (blkOk_by (N := N_show_catalogue) (sc := (defScope s_show_catalogue)) (by decide +kernel)) (fun _ _ _ _ _ => (pg_tup rfl (pgs_cons (pg_name (i := 1) sc_show_catalogue.nd rfl (Or.inl rfl)) (pgs_cons (pg_name (i := 2) sc_show_catalogue.nd rfl (Or.inl rfl)) (pgs_cons (pg_name (i := 3) sc_show_catalogue.nd rfl (Or.inl rfl)) pgs_nil))))) (fun _ _ _ _ _ => pts_nil) (fun _ _ _ _ _ => (peJoin (K := K) rfl (pe_gs T.c_SPACE) (pe_op op_cat (pe_lst (pa_cons (pv 1) (pa_cons (pe_callTy call_str_int (by rfl) T.n_str (by decide +kernel) (pa_cons (pv 2) pa_nil)) pa_nil))) (pv 3)))))))), ?_⟩
    have hl := Paired.len hc
    refine ⟨⟨_, rfl⟩, _, rfl, a, rfl, ⟨_, ha⟩, fun D hD => lc_rel (Tb := Tb) (xs := xs) walk_list rfl (fun _ => true) (fun _ x y => ∃ e ∈ es, EntAt H x e ∧ y = V.str (entT e)) (fun _ _ _ _ _ h => h) hD (by omega) (fun H' g => g.ext_seq ha) (fun j v H' hv g hd0 Rk Rs hk hks => ?_) fun H' ys g hD' pr => ?_⟩
    · obtain ⟨e, he, hev⟩ := Paired.at hc hv
      have hem := List.mem_of_getElem? he
      have t := ht e hem
      have hev2 := hev
      obtain ⟨tt, lp, rfl, ht1, hlp⟩ := hev
      have hf := t.few
      refine gtup3 (g.at ht1 .tup) ⟨rfl, ⟨_, rfl⟩, _, rfl, _, rfl, _, rfl, logC t.w0 t.w1, by show 2 ≤ sizeLine; decide, fun l1 hl1 => ⟨_, rfl, l1, lp, _, _, rfl, rfl, upd_same, (Gr.new (T := Tb) hl1).at (g.at hlp .lst) .lst, by rw [List.length_map, sizeLine_eq]; show 2 + e.parts.length ≤ 16777216; omega, fun l2 hl2 => ?_⟩⟩
      have hw := entW_size t
      have e1 : (Str.ofString " ").length = 1 := by decide
      exact ⟨_, l2, entW e, rfl, rfl, .inl (SqL.of upd_same), by rw [e1]; omega, hk _ _ rfl ((Gr.new hl1).trans (Gr.new hl2)) ⟨e, hem, hev2, rfl⟩⟩
    · rw [List.filter_eq_self.mpr fun _ _ => rfl] at pr
      have e2 := ents_text hc pr
      subst e2
      have hs := catT_size ht hz
      have e1 : (Str.ofString ", ").length = 2 := by decide
      exact ⟨_, D, es.map entT, rfl, rfl, .inl (SqL.of hD'), by rw [e1]; omega, k H' g⟩
end
end Sk
namespace Sk
open PySem PySem.Spec PyProof.Rows L2
abbrev s_is_name : Stmt := topS 11
abbrev N_is_name : List Str := ["text", "sign"]
theorem sc_is_name : FnScope N_is_name ["text"] (defScope s_is_name) := ⟨rfl, rfl, rfl, by decide +kernel, rfl, by decide +kernel, by decide +kernel⟩
def letters : Str := "abcdefghijklmnopqrstuvwxyz"
/-- a name of one to eight small letters -/
def nameB (x : Str) : Bool := decide (1 ≤ x.length) && (decide (x.length ≤ 8) && x.cps.toList.all fun c => decide (c ∈ letters.cps.toList))
def sp_is_name (Tb : List (Addr × Str)) (K : PySem.W.Frag) : Sp := fun vs H Q _ => ∃ x : Str, vs = [.str x] ∧ x.length ≤ 1000000 ∧ ∀ H', Gr Tb H H' → Q (.bl (nameB x)) H'
section
variable {P : Program} {w : World} {K : PySem.W.Frag} {mg : Str → Option Value} {base : Heap} {Tb : List (Addr × Str)}
theorem ok_is_name {f : Addr} {fd : FuncData} (F : FnP K "is_name" s_is_name f fd) (T : Tx K mg) : FnOk P w K mg base CX0 1 f fd ["text"] (sp_is_name Tb K) := by
  refine F.ok sc_is_name (fun vs H Q E h => ?_) (fun cdv A outer s H vs Q E hr h => ?_)
  · obtain ⟨_, rfl, _⟩ := h
    rfl
  · obtain ⟨x, rfl, hz, k⟩ := h
    refine ⟨_, PSs.nox (pss_one (ps_ret (pe_and (pe_chain op_le op_le pe_int (pe_callB call_len_str (by rfl) T.n_len (by decide +kernel) (pa_cons (pv 0) pa_nil)) (pe_gi T.c_MOST_LETTERS)) (pe_one (pe_callB (crAll (K := K) rfl rfl) (by rfl) T.n_all (by decide +kernel) (pa_cons (pe_lc (own := [("sign", 1)]) (g := (gName 1)) (tt := tYes) rfl sc_is_name.nd (pi_str (pv 0)) (blkOk_by (N := N_is_name) (sc := (defScope s_is_name)) (by decide +kernel)) (fun _ _ _ _ _ => (pg_name (i := 1) sc_is_name.nd rfl (Or.inl rfl))) (fun _ _ _ _ _ => pts_nil) (fun _ _ _ _ _ => (pe_cmpR op_in_sign (pv 1) (pe_gs T.c_LETTERS) rfl))) pa_nil)))))), ?_⟩
    refine ⟨_, rfl, x, rfl, Nat.le_trans hz (by decide), _, _, rfl, rfl, _, rfl, ?_⟩
    have k0 : ∀ b : Bool, nameB x = b → Q (.bl b) H := fun b e => by
      rw [← e]
      exact k H (Gr.refl H)
    refine ite2 (fun h1 => ?_) (fun h1 => ⟨_, rfl, iteF (k0 false ?_)⟩)
    · refine ⟨_, _, rfl, rfl, _, rfl, ite2 (fun h2 => ?_) (fun h2 => k0 false ?_)⟩
      · refine rd_allIn (Tb := Tb) rfl rfl (by show 1 < 2; decide) hz fun H' g => ?_
        have e : (x.cps.toList.all fun c => decide (c ∈ letters.cps.toList)) = nameB x := by
          unfold nameB
          rw [decide_eq_true (show 1 ≤ x.length by have := of_decide_eq_true h1; omega), decide_eq_true (show x.length ≤ 8 by have := of_decide_eq_true h2; omega)]
          rfl
        show Q (.bl (x.cps.toList.all fun c => decide (c ∈ letters.cps.toList))) H'
        rw [e]
        exact k H' g
      · have : ¬ x.length ≤ 8 := fun z => h2 (decide_eq_true (show (x.length : Int) ≤ 8 by omega))
        unfold nameB
        rw [decide_eq_false this]
        simp
    · have : ¬ 1 ≤ x.length := fun z => h1 (decide_eq_true (show (1 : Int) ≤ x.length by omega))
      unfold nameB
      rw [decide_eq_false this]
      rfl
end
end Sk
namespace Sk
open PySem PySem.Spec PyProof.Rows L2
abbrev s_is_entry : Stmt := topS 12
abbrev N_is_entry : List Str := ["entry", "earlier_names", "weights", "name", "weight", "parts", "part"]
theorem sc_is_entry : FnScope N_is_entry ["entry", "earlier_names", "weights"] (defScope s_is_entry) := ⟨rfl, rfl, rfl, by decide +kernel, rfl, by decide +kernel, by decide +kernel⟩
/-- an entry is valid, given the names ahead and all weights -/
def entB (e : Ent) (ahead : List Str) (ws : Num) : Bool := nameB e.name && (!decide (e.name ∈ ahead) && (!decide (e.w < 1) && e.parts.all fun p => match get? ws p with | some w => decide (w < e.w) | none => false))
def sp_is_entry (Tb : List (Addr × Str)) (K : PySem.W.Frag) : Sp := fun vs H Q _ => ∃ (v : V) (e : Ent) (l d : Addr) (ahead : List Str) (ws : Num), vs = [v, .ref l, .ref d] ∧ EntAt H v e ∧ H l = some (.lst (ahead.map V.str)) ∧ H d = some (.dK (dS ws)) ∧ e.name.length ≤ 1000000 ∧ e.parts.length ≤ 1000000 ∧ ∀ H', Gr Tb H H' → Q (.bl (entB e ahead ws)) H'
theorem flat_strs (l : List Str) : (l.map V.str).all flatV = true := by
  rw [List.all_map]
  exact List.all_eq_true.mpr fun _ _ => rfl
theorem inV_strs (x : Str) (l : List Str) : inV (.str x) (l.map V.str) = decide (x ∈ l) := by
  unfold inV
  rw [List.any_map]
  induction l with
  | nil => rfl
  | cons y l ih =>
    rw [List.any_cons, ih]
    show (eqV (V.str y) (V.str x) || _) = _
    have : eqV (V.str y) (V.str x) = decide (y = x) := by
      unfold eqV
      rfl
    rw [this]
    by_cases e : x = y
    · subst e
      simp
    · have e2 : ¬ y = x := fun z => e z.symm
      simp [e, e2]
section
variable {P : Program} {w : World} {K : PySem.W.Frag} {mg : Str → Option Value} {base : Heap} {Tb : List (Addr × Str)}
theorem ok_is_entry {f : Addr} {fd : FuncData} (F : FnP K "is_entry" s_is_entry f fd) (T : Tx K mg) (G_is_name : Fn P w K mg base "is_name" 1 ["text"] (sp_is_name Tb K)) : FnOk P w K mg base CX0 2 f fd ["entry", "earlier_names", "weights"] (sp_is_entry Tb K) := by
  refine F.ok sc_is_entry (fun vs H Q E h => ?_) (fun cdv A outer s H vs Q E hr h => ?_)
  · obtain ⟨_, _, _, _, _, _, rfl, _⟩ := h
    rfl
  · obtain ⟨v, e, l, d, ahead, ws, rfl, ⟨t, lp, rfl, ht, hlp⟩, hl, hd, hz, hz2, k⟩ := h
    refine ⟨_, PSs.nox (pss_cons (ps_asg (pv 0) (pg_tup rfl (pgs_cons (pg_name (i := 3) sc_is_entry.nd rfl (Or.inl rfl)) (pgs_cons (pg_name (i := 4) sc_is_entry.nd rfl (Or.inr rfl)) (pgs_cons (pg_name (i := 5) sc_is_entry.nd rfl (Or.inl rfl)) pgs_nil)))))
      (pss_cons (ps_if (PW.pt (pw_or (pt_not (pt_val (pe_fn G_is_name (hr.mono (by decide)) (pa_cons (pv 3) pa_nil)))) (pw_or (pt_cmpR (opIn (K := K) rfl) (pv 3) (pv 1) (by with_unfolding_all rfl)) (pw_or1 (pt_cmpR op_lt (pv 4) pe_int (nomark _)))))) (pss_one (ps_ret pe_bl)) pss_nil)
      (pss_one (ps_ret (pe_callB (crAll (K := K) rfl rfl) (by rfl) T.n_all (by decide +kernel) (pa_cons (pe_lc (own := [("part", 6)]) (g := (gName 6)) (tt := tYes) rfl sc_is_entry.nd (piL (K := K) rfl (pv 5)) (blkOk_by (N := N_is_entry) (sc := (defScope s_is_entry)) (by decide +kernel)) (fun _ _ _ _ _ => (pg_name (i := 6) sc_is_entry.nd rfl (Or.inl rfl))) (fun _ _ _ _ _ => pts_nil) (fun _ _ _ _ _ => (pe_and (pe_cmp (pc_din (hu_of hr) (pv 6) (pv 2))) (pe_one (pe_cmpR op_lt (pe_dget (hu_of hr) (pv 2) (pv 6) (fun _ _ => rfl)) (pv 4) (nomark _)))))) pa_nil)))))), ?_⟩
    refine ⟨_, rfl, gtup3 ht ?_⟩
    refine ⟨_, rfl, e.name, rfl, hz, fun H1 g1 => ⟨_, rfl, ?_⟩⟩
    have k0 : ∀ H' b, Gr Tb H H' → entB e ahead ws = b → Q (.bl b) H' := fun H' b g q => by
      rw [← q]
      exact k H' g
    show (if (!nameB e.name) = true then _ else _)
    refine ite2 (fun c1 => ?_) (fun c1 => ?_)
    · refine k0 _ _ g1 ?_
      unfold entB
      rw [Bool.not_eq_true'] at c1
      rw [c1]
      rfl
    have n1 : nameB e.name = true := by simpa using c1
    refine ⟨_, rfl, _, rfl, l, _, rfl, .inl (SqL.of (g1.at hl .lst)), rfl, flat_strs _, _, rfl, ?_⟩
    rw [inV_strs]
    refine ite2 (fun c2 => ?_) (fun c2 => ?_)
    · refine k0 _ _ g1 ?_
      unfold entB
      have : decide (e.name ∈ ahead) = true := c2
      rw [n1, this]
      rfl
    have n2 : decide (e.name ∈ ahead) = false := by simpa using c2
    refine ⟨_, rfl, _, _, rfl, rfl, _, rfl, ?_⟩
    refine ite2 (fun c3 => ?_) (fun c3 => ?_)
    · refine k0 _ _ g1 ?_
      unfold entB
      have : decide (e.w < 1) = true := c3
      rw [n1, n2, this]
      rfl
    have n3 : decide (e.w < 1) = false := by simpa using c3
    refine ⟨_, rfl, lp, rfl, ⟨_, SqL.of (g1.at hlp .lst)⟩, fun D hD => lc_fm (Tb := Tb) (xs := e.parts.map V.str) walk_list rfl (fun v => match v with | .str p => some (.bl (match get? ws p with | some w => decide (w < e.w) | none => false)) | _ => none) hD ?_ (fun H' g => SqL.of ((g1.trans g).at hlp .lst)) (fun j v H' hv g Rk Rs hk hs => ?_) fun H' g hD' => ?_⟩
    · rw [List.length_map]
      omega
    · rw [List.getElem?_map] at hv
      cases hc : e.parts[j]? with
      | none =>
        rw [hc] at hv
        cases hv
      | some p =>
        rw [hc] at hv
        cases hv
        have hd' := (g1.trans g).at hd .dK
        refine ⟨rfl, _, rfl, _, rfl, d, _, rfl, DGet.k (k := Sum.inr p) hd', _, rfl, ?_⟩
        rw [valV_dS]
        cases hg : get? ws p with
        | none => exact hk _ _ (by simp only [hg]) (Gr.refl _)
        | some w =>
          have dg : DGet H' d (V.str p) (some (V.int w)) := by
            have z := DGet.k (k := Sum.inr p) hd'
            rw [valV_dS, hg] at z
            exact z
          refine ⟨_, rfl, _, rfl, d, _, rfl, dg, _, rfl, _, _, rfl, rfl, hk _ _ ?_ (Gr.refl _)⟩
          simp only [hg]
    · refine ⟨D, e.parts.map fun p => match get? ws p with | some w => decide (w < e.w) | none => false, rfl, ?_, ?_⟩
      · have e1 : (e.parts.map V.str).filterMap (fun v => match v with | .str p => some (V.bl (match get? ws p with | some w => decide (w < e.w) | none => false)) | _ => none) = (e.parts.map fun p => match get? ws p with | some w => decide (w < e.w) | none => false).map V.bl := by
          rw [List.filterMap_map, List.map_map, ← List.filterMap_eq_map]
          rfl
        rw [e1] at hD'
        exact SqL.of hD'
      · refine k0 _ _ (g1.trans g) ?_
        unfold entB
        rw [n1, n2, n3, List.all_map]
        rfl
end
end Sk
namespace Sk
open PySem PySem.Spec PyProof.Rows L2
abbrev s_check_catalogue : Stmt := topS 13
abbrev N_check_catalogue : List Str := ["catalogue", "weights", "earlier_names", "name", "weight", "parts", "index", "entry"]
theorem sc_check_catalogue : FnScope N_check_catalogue ["catalogue"] (defScope s_check_catalogue) := ⟨rfl, rfl, rfl, by decide +kernel, rfl, by decide +kernel, by decide +kernel⟩
/-- a valid catalogue -/
structure Valid (es : List Ent) : Prop where
  ne : es ≠ []
  names : ∀ e ∈ es, nameB e.name = true
  nodup : (es.map (·.name)).Nodup
  pos : ∀ e ∈ es, 1 ≤ e.w
  lighter : ∀ e ∈ es, ∀ p ∈ e.parts, ∃ e' ∈ es, e'.name = p ∧ e'.w < e.w
  few : es.length ≤ 100000
  fewp : ∀ e ∈ es, e.parts.length ≤ 100000
theorem Valid.known {es : List Ent} (v : Valid es) : ∀ e ∈ es, ∀ p ∈ e.parts, p ∈ es.map (·.name) := fun e he p hp => by
  obtain ⟨e', h1, h2, _⟩ := v.lighter e he p hp
  exact List.mem_map.mpr ⟨e', h1, h2⟩
theorem Valid.perm {es es' : List Ent} (p : es'.Perm es) (v : Valid es) : Valid es' :=
  ⟨fun z => v.ne (by subst z; exact (List.nil_perm.mp p)), fun e he => v.names e (p.mem_iff.mp he), ((p.map _).nodup_iff).mpr v.nodup, fun e he => v.pos e (p.mem_iff.mp he),
    fun e he q hq => by
      obtain ⟨e', h1, h2⟩ := v.lighter e (p.mem_iff.mp he) q hq
      exact ⟨e', p.mem_iff.mpr h1, h2⟩, by rw [p.length_eq]; exact v.few, fun e he => v.fewp e (p.mem_iff.mp he)⟩
def sp_check_catalogue (Tb : List (Addr × Str)) (K : PySem.W.Frag) : Sp := fun vs H Q _ => ∃ (a : Addr) (xs : List V) (es : List Ent), vs = [.ref a] ∧ SqL K H a xs ∧ CatAt H xs es ∧ Valid es ∧ ∀ H', Gr Tb H H' → Q .non H'
/-- the weights by name -/
def wts (es : List Ent) : Num := es.map fun e => (e.name, e.w)
theorem get_none {d : Num} {x : Str} (h : x ∉ d.map (·.1)) : get? d x = none := by
  unfold get?
  rw [List.find?_eq_none.mpr fun q hq => by
    rw [decide_eq_true_eq]
    exact fun e => h (List.mem_map.mpr ⟨q, hq, e⟩)]
  rfl
theorem get_some {d : Num} {x : Str} {i : Int} (nd : (d.map (·.1)).Nodup) (h : (x, i) ∈ d) : get? d x = some i := by
  unfold get?
  induction d with
  | nil => cases h
  | cons q d ih =>
    rw [List.map_cons, List.nodup_cons] at nd
    rcases List.mem_cons.mp h with e | h
    · subst e
      simp
    · have : q.1 ≠ x := fun e => nd.1 (List.mem_map.mpr ⟨_, h, e.symm⟩)
      rw [List.find?_cons_of_neg (by simpa using this)]
      exact ih nd.2 h
theorem put_new {d : Num} {x : Str} {i : Int} (h : x ∉ d.map (·.1)) : put d x i = d ++ [(x, i)] := by
  unfold put
  rw [if_neg]
  rw [List.any_eq_true]
  rintro ⟨q, hq, e⟩
  exact h (List.mem_map.mpr ⟨q, hq, by simpa using e⟩)
theorem wts_names (es : List Ent) : (wts es).map (·.1) = es.map (·.name) := by
  unfold wts
  rw [List.map_map]
  rfl
theorem take_notin {es : List Ent} (nd : (es.map (·.name)).Nodup) {i : Nat} {e : Ent} (h : es[i]? = some e) : e.name ∉ (es.take i).map (·.name) := by
  intro hm
  rw [List.map_take] at hm
  obtain ⟨j, hj⟩ := List.mem_iff_getElem?.mp hm
  have h1 : (es.map (·.name))[i]? = some e.name := by rw [List.getElem?_map, h]; rfl
  have hji : j < i := by
    rcases Nat.lt_or_ge j i with q | q
    · exact q
    · rw [List.getElem?_take, if_neg (by omega)] at hj
      cases hj
  rw [List.getElem?_take_of_lt hji] at hj
  have := nodup_ix nd hj h1
  omega
theorem take_snoc {α : Type} {es : List α} {i : Nat} {e : α} (h : es[i]? = some e) : es.take (i + 1) = es.take i ++ [e] := by
  rw [List.take_add_one, h]
  rfl
theorem len_ok {x : Str} (h : nameB x = true) : x.length ≤ 8 := by
  unfold nameB at h
  simp only [Bool.and_eq_true, decide_eq_true_eq] at h
  exact h.2.1
theorem entB_valid {es : List Ent} (v : Valid es) {i : Nat} {e : Ent} (h : es[i]? = some e) : entB e ((es.take i).map (·.name)) (wts es) = true := by
  have hm := List.mem_of_getElem? h
  unfold entB
  rw [v.names e hm, decide_eq_false (take_notin v.nodup h), decide_eq_false (show ¬ e.w < 1 by have := v.pos e hm; omega)]
  simp only [Bool.not_false, Bool.true_and, List.all_eq_true]
  intro p hp
  obtain ⟨e', he', hn, hw⟩ := v.lighter e hm p hp
  have : get? (wts es) p = some e'.w := get_some (by rw [wts_names]; exact v.nodup) (by rw [← hn]; exact List.mem_map.mpr ⟨e', he', rfl⟩)
  rw [this]
  simpa using hw
section
variable {P : Program} {w : World} {K : PySem.W.Frag} {mg : Str → Option Value} {base : Heap} {Tb : List (Addr × Str)}
theorem ok_check_catalogue {f : Addr} {fd : FuncData} (F : FnP K "check_catalogue" s_check_catalogue f fd) (T : Tx K mg) (G_is_entry : Fn P w K mg base "is_entry" 2 ["entry", "earlier_names", "weights"] (sp_is_entry Tb K)) : FnOk P w K mg base CX0 3 f fd ["catalogue"] (sp_check_catalogue Tb K) := by
  refine F.ok sc_check_catalogue (fun vs H Q E h => ?_) (fun cdv A outer s H vs Q E hr h => ?_)
  · obtain ⟨_, _, _, rfl, _⟩ := h
    rfl
  · obtain ⟨a, xs, es, rfl, ha, hc, hv, k⟩ := h
    refine ⟨_, PSs.nox (pss_cons (ps_if (pt_cmpR (opEqNil (K := K) rfl hr.units) (pv 0) (pe_lst pa_nil) (nomark _)) (pss_one ps_never) pss_nil)
      (pss_cons (ps_set (i := 1) sc_check_catalogue.nd rfl (Or.inl rfl) pe_dnewK)
      (pss_cons (ps_for PassesOwn.never rfl (piL (K := K) rfl (pv 0)) (pg_tup rfl (pgs_cons (pg_name (i := 3) sc_check_catalogue.nd rfl (Or.inl rfl)) (pgs_cons (pg_name (i := 4) sc_check_catalogue.nd rfl (Or.inl rfl)) (pgs_cons (pg_name (i := 5) sc_check_catalogue.nd rfl (Or.inl rfl)) pgs_nil)))) (pss_one (ps_expr (pe_dsetd (pv 1) (pv 3) (pv 4) ⟨rfl, rfl, rfl, rfl⟩))))
      (pss_cons (ps_set (i := 2) sc_check_catalogue.nd rfl (Or.inl rfl) (pe_lst pa_nil))
      (pss_one (ps_for PassesOwn.never rfl (piEnum (K := K) rfl (by rfl) T.n_enumerate (pa_cons (pv 0) pa_nil)) (pg_tup rfl (pgs_cons (pg_name (i := 6) sc_check_catalogue.nd rfl (Or.inl rfl)) (pgs_cons (pg_name (i := 7) sc_check_catalogue.nd rfl (Or.inl rfl)) pgs_nil))) (pss_cons (ps_if (pt_not (pt_val (pe_fn G_is_entry (hr.mono (by decide)) (pa_cons (pv 7) (pa_cons (pv 2) (pa_cons (pv 1) pa_nil)))))) (pss_one ps_never) pss_nil)
        (pss_one (ps_expr (peBm (K := K) rfl PySem.F.plainAttrs_list PySem.F.slot_list_append PySem.F.type_list_append mt_append (pv 2) (pa_cons (pe_ix (ixT (K := K) rfl) (pv 7) pe_int (fun _ _ => rfl)) pa_nil))))))))))), ?_⟩
    have hlen := Paired.len hc
    have hxs : xs.isEmpty = false := by
      cases xs with
      | nil =>
        cases hc
        exact absurd rfl hv.ne
      | cons _ _ => rfl
    refine ⟨_, rfl, rd_nil ha fun p hp => ⟨_, rfl, ?_⟩⟩
    show (if xs.isEmpty = true then _ else _)
    rw [hxs]
    refine iteF ?_
    intro d hd
    have hd0 : Nw H d := (Gr.new (T := Tb) hp).nw (.of hd)
    have g0 : Gr Tb H (upd (upd H p (.lst [])) d (.dK [])) := (Gr.new hp).trans (Gr.new hd)
    refine ⟨_, rfl, a, rfl, ⟨_, (g0.ext_seq ha)⟩, for_list (K := K) (a := a) (xs := xs) (fun i σ H' => ∃ s3 s4 s5 : Option V, σ = [some (.ref a), some (.ref d), none, s3, s4, s5, none, none] ∧ Gr Tb H H' ∧ H' d = some (.dK (dS (wts (es.take i)))))
      ⟨none, none, none, rfl, g0, upd_same⟩ (fun i σ H' _ ⟨_, _, _, _, g, _⟩ => g.ext_seq ha) ?_ ?_⟩
    · rintro i x σ H' hx ⟨s3, s4, s5, rfl, g, hdd⟩
      obtain ⟨e, he, t, lp, rfl, ht, hlp⟩ := Paired.at hc hx
      have nn : get? (wts (es.take i)) e.name = none := get_none (by rw [wts_names]; exact take_notin hv.nodup he)
      refine gtup3 (g.at ht .tup) ⟨_, rfl, d, rfl, .inl ⟨_, .inl hdd⟩, _, rfl, _, rfl, _, Sum.inr e.name, hdd, rfl, ?_, ?_, ?_⟩
      · rw [dS_len]
        unfold wts
        rw [List.length_map, List.length_take, sizeLine_eq]
        have := hv.few
        omega
      · intro v hv'
        rw [valV_dS, nn] at hv'
        cases hv'
      · intro _
        refine ⟨_, _, _, rfl, g.mut hd0 hdd .dK, ?_⟩
        rw [upd_same, putK_dS, put_new (by rw [wts_names]; exact take_notin hv.nodup he), take_snoc he]
        unfold wts
        rw [List.map_append]
        rfl
    · rintro σ H' ⟨s3, s4, s5, rfl, g, hdd⟩
      rw [hlen, List.take_length] at hdd
      refine ⟨Nat.zero_le _, fun l hl => ?_⟩
      have dl : d ≠ l := ne_of_none hdd hl
      have hl0 : Nw H l := g.nw (.of hl)
      have g1 : Gr Tb H (upd H' l (.lst [])) := g.trans (Gr.new hl)
      refine ⟨_, rfl, a, xs, rfl, g1.ext_seq ha, for_it (walk_enum (xs := xs)) (fun i σ H' => ∃ s3 s4 s5 s6 s7 : Option V, σ = [some (.ref a), some (.ref d), some (.ref l), s3, s4, s5, s6, s7] ∧ Gr Tb H H' ∧ H' d = some (.dK (dS (wts es))) ∧ H' l = some (.lst (((es.take i).map (·.name)).map V.str)))
        ⟨_, _, _, _, _, rfl, g1, by rw [upd_ne dl]; exact hdd, by rw [upd_same]; rfl⟩ (fun i σ H' _ ⟨_, _, _, _, _, _, g, _⟩ => g.ext_seq ha) ?_ ?_⟩
      · rintro i x σ H1 H2 hi ⟨s3, s4, s5, s6, s7, rfl, g2, hdd, hll⟩ ⟨T, x1, x2, rfl, hT, rfl, e1, e2⟩
        cases e1
        obtain ⟨e, he, t, lp, rfl, ht, hlp⟩ := Paired.at hc e2
        have hm := List.mem_of_getElem? he
        have g3' : Gr Tb H (upd H1 T (.tup [.int (i : Nat), .ref t])) := g2.trans (Gr.new hT)
        have hd3 : upd H1 T (.tup [.int (i : Nat), .ref t]) d = _ := (upd_ne (ne_of_none hdd hT)).trans hdd
        have hl3 : upd H1 T (.tup [.int (i : Nat), .ref t]) l = _ := (upd_ne (ne_of_none hll hT)).trans hll
        refine gtup2 upd_same ?_
        refine ⟨_, rfl, _, rfl, _, rfl, .ref t, e, l, d, _, _, rfl, ⟨t, lp, rfl, g3'.at ht .tup, g3'.at hlp .lst⟩, hl3, hd3, Nat.le_trans (len_ok (hv.names e hm)) (by decide), Nat.le_trans (hv.fewp e hm) (by decide), fun H4 g4 => ⟨_, rfl, ?_⟩⟩
        rw [entB_valid hv he]
        have g5 := g3'.trans g4
        have hl5 := g4.at hl3 .lst
        refine ⟨_, rfl, .inl ⟨rfl, _, SqL.of hl5⟩, _, rfl, t, _, _, _, rfl, rfl, SqT.of (g5.at ht .tup), atI_nat (j := 0) rfl, l, _, _, rfl, rfl, hl5, ?_, ?_⟩
        · rw [List.length_map, List.length_map, List.length_take, sizeLine_eq]
          have := hv.few
          omega
        · refine ⟨_, _, _, _, _, rfl, g5.mut hl0 hl5 .lst, ?_, ?_⟩
          · rw [upd_ne dl]
            exact g4.at hd3 .dK
          · rw [upd_same, take_snoc he, List.map_append, List.map_append]
            rfl
      · rintro σ H1 ⟨s3, s4, s5, s6, s7, rfl, g2, hdd, hll⟩
        exact k H1 g2
end
end Sk
namespace Sk
open PySem PySem.Spec PyProof.Rows L2
abbrev s_read_positive : Stmt := topS 17
abbrev N_read_positive : List Str := ["word", "sign"]
theorem sc_read_positive : FnScope N_read_positive ["word"] (defScope s_read_positive) := ⟨rfl, rfl, rfl, by decide +kernel, rfl, by decide +kernel, by decide +kernel⟩
def digitsS : Str := "0123456789"
/-- the positive number that a word writes -/
def posW (w : Str) : Option Int := if 0 < w.length ∧ w.length ≤ 60 ∧ (w.cps.toList.all fun c => decide (c ∈ digitsS.cps.toList)) = true ∧ w.cps.toList.head? ≠ some 48 then some (NumText.digitsVal w.cps.toList : Nat) else none
def optV : Option Int → V
  | some i => .int i
  | none => .non
def sp_read_positive (Tb : List (Addr × Str)) (K : PySem.W.Frag) : Sp := fun vs H Q _ => ∃ (w : Str), vs = [.str w] ∧ w.length ≤ 1000000 ∧ ∀ H', Gr Tb H H' → Q (optV (posW w)) H'
theorem hu65 {k : Nat} {A : Around} (hr : Room k A) : A.units + 65 < cLine := by
  have := hr.un
  omega
open TL in
theorem head_num : ∀ n : Nat, 0 < n → (numL n).head? ≠ some 48 := by
  intro n
  induction n using Nat.strongRecOn with
  | ind n ih =>
    intro h
    rcases Nat.lt_or_ge n 10 with h1 | h1
    · rw [numL_lt h1]
      intro z
      have z2 : 48 + n = 48 := Option.some.inj z
      omega
    · rw [numL_step h1]
      have h2 := ih (n / 10) (Nat.div_lt_self h (by decide)) (Nat.div_pos h1 (by decide))
      cases hq : numL (n / 10) with
      | nil => exact absurd hq (numL_ne _)
      | cons c cs =>
        rw [hq] at h2
        exact h2
open TL in
theorem posW_num {i : Int} (h0 : 0 < i) (h1 : i < 10 ^ 60) : posW (Str.ofString (toString i)) = some i := by
  obtain ⟨n, rfl⟩ := Int.eq_ofNat_of_zero_le (Int.le_of_lt h0)
  have n0 : 0 < n := by omega
  have n1 : n < 10 ^ 60 := by omega
  have e : (Str.ofString (toString (n : Int))).cps.toList = numL n := tl_num n
  have hl := numL_len (k := 60) (by decide) n1
  have hl2 : (Str.ofString (toString (n : Int))).length = (numL n).length := by
    rw [← e, Array.length_toList]
    rfl
  have hne := numL_ne n
  have cnd : 0 < (Str.ofString (toString (n : Int))).length ∧ (Str.ofString (toString (n : Int))).length ≤ 60 ∧ ((Str.ofString (toString (n : Int))).cps.toList.all fun c => decide (c ∈ digitsS.cps.toList)) = true ∧ (Str.ofString (toString (n : Int))).cps.toList.head? ≠ some 48 := by
    refine ⟨by rw [hl2]; exact List.length_pos_iff.mpr hne, by rw [hl2]; exact hl, ?_, by rw [e]; exact head_num n n0⟩
    rw [e, List.all_eq_true]
    intro c hc
    have h2 := numL_digits n c hc
    have h3 : ∀ k, k < 10 → decide (48 + k ∈ digitsS.cps.toList) = true := by decide +kernel
    have h4 := h3 (c - 48) (by omega)
    rw [show 48 + (c - 48) = c by omega] at h4
    exact h4
  unfold posW
  rw [if_pos cnd, e, numL_val]
theorem name_signs {x : Str} (h : nameB x = true) : ∀ c ∈ x.cps.toList, 97 ≤ c ∧ c ≤ 122 := fun c hc => by
  unfold nameB at h
  simp only [Bool.and_eq_true, decide_eq_true_eq, List.all_eq_true] at h
  have h2 : ∀ c ∈ letters.cps.toList, 97 ≤ c ∧ c ≤ 122 := by decide +kernel
  exact h2 c (h.2.2 c hc)
theorem name_len {x : Str} (h : nameB x = true) : x.length ≤ 8 := by
  unfold nameB at h
  simp only [Bool.and_eq_true, decide_eq_true_eq] at h
  exact h.2.1
section
variable {P : Program} {w : World} {K : PySem.W.Frag} {mg : Str → Option Value} {base : Heap} {Tb : List (Addr × Str)}
theorem ok_read_positive {f : Addr} {fd : FuncData} (F : FnP K "read_positive" s_read_positive f fd) (T : Tx K mg) : FnOk P w K mg base CX0 1 f fd ["word"] (sp_read_positive Tb K) := by
  refine F.ok sc_read_positive (fun vs H Q E h => ?_) (fun cdv A outer s H vs Q E hr h => ?_)
  · obtain ⟨_, rfl, _⟩ := h
    rfl
  · obtain ⟨w, rfl, hz, k⟩ := h
    refine ⟨_, PSs.nox (pss_cons (ps_if (PW.pt (pw_or (pt_not (pt_chain op_lt op_le pe_int (pe_callB call_len_str (by rfl) T.n_len (by decide +kernel) (pa_cons (pv 0) pa_nil)) (pe_gi T.c_MOST_DIGITS))) (pw_or1 (pt_not (pt_val (pe_callB (crAll (K := K) rfl rfl) (by rfl) T.n_all (by decide +kernel) (pa_cons (pe_lc (own := [("sign", 1)]) (g := (gName 1)) (tt := tYes) rfl sc_read_positive.nd (pi_str (pv 0)) (blkOk_by (N := N_read_positive) (sc := (defScope s_read_positive)) (by decide +kernel)) (fun _ _ _ _ _ => (pg_name (i := 1) sc_read_positive.nd rfl (Or.inl rfl))) (fun _ _ _ _ _ => pts_nil) (fun _ _ _ _ _ => (pe_cmpR op_in_sign (pv 1) (pe_gs T.c_DIGITS) rfl))) pa_nil))))))) (pss_one (ps_ret pe_non)) pss_nil)
      (pss_one (ps_ret (pe_ifExp (pt_cmpR op_ne (pe_ix ix_str (pv 0) pe_int (fun _ _ => rfl)) pe_str (nomark _)) (pe_callTy call_int_str (by rfl) T.n_int (by decide +kernel) (pa_cons (pv 0) pa_nil)) pe_non)))), ?_⟩
    refine ⟨_, rfl, w, rfl, Nat.le_trans hz (by decide), _, _, rfl, rfl, _, rfl, ?_⟩
    have kN : posW w = none → ∀ H', Gr Tb H H' → Q .non H' := fun e H' g => by
      have := k H' g
      rw [e] at this
      exact this
    refine ite2 (fun h1 => ?_) (fun h1 => ?_)
    · have p1 : 0 < w.length := by have := of_decide_eq_true h1; omega
      refine ⟨_, _, rfl, rfl, _, rfl, ?_⟩
      dsimp only
      refine ite2 (fun h2 => ?_) (fun h2 => ?_)
      · refine kN ?_ H (Gr.refl H)
        unfold posW
        rw [if_neg fun z => ?_]
        have : (decide ((w.length : Int) ≤ 60)) = true := decide_eq_true (by omega)
        rw [this] at h2
        cases h2
      · have p2 : w.length ≤ 60 := by
          cases q : decide ((w.length : Int) ≤ 60) with
          | true => have := of_decide_eq_true q; omega
          | false => rw [q] at h2; exact absurd rfl h2
        refine rd_allIn (Tb := Tb) rfl rfl (by show 1 < 2; decide) hz fun H' g => ?_
        refine ⟨_, rfl, ?_⟩
        dsimp only
        refine ite2 (fun h3 => ?_) (fun h3 => ?_)
        · refine kN ?_ H' g
          unfold posW
          rw [if_neg fun z => ?_]
          have e : (w.cps.toList.all fun c => decide (c ∈ (Str.ofString "0123456789").cps.toList)) = true := z.2.2.1
          rw [e] at h3
          cases h3
        · have p3 : (w.cps.toList.all fun c => decide (c ∈ digitsS.cps.toList)) = true := by
            cases q : (w.cps.toList.all fun c => decide (c ∈ (Str.ofString "0123456789").cps.toList)) with
            | true => exact q
            | false => rw [q] at h3; exact absurd rfl h3
          obtain ⟨c0, cs, hcs⟩ : ∃ c0 cs, w.cps.toList = c0 :: cs := by
            cases q : w.cps.toList with
            | nil =>
              have : w.cps.toList.length = 0 := by rw [q]; rfl
              rw [Array.length_toList] at this
              have e : w.length = w.cps.size := rfl
              omega
            | cons c0 cs => exact ⟨c0, cs, rfl⟩
          refine ⟨_, rfl, w, _, c0, rfl, rfl, Nat.le_trans hz (by decide), by rw [hcs]; exact atI_nat (j := 0) rfl, rfl, _, rfl, ?_⟩
          have e48 : ∀ c : Nat, V.str ⟨#[c]⟩ = V.str (Str.ofString "0") → c = 48 := fun c z => by
            have z2 : (⟨#[c]⟩ : Str) = ⟨#[48]⟩ := V.str.inj z
            have z3 := congrArg (fun s : Str => s.cps.toList) z2
            simpa using z3
          refine ite2 (fun h4 => ?_) (fun h4 => ?_)
          · have n48 : c0 ≠ 48 := fun z => by
              rw [z, decide_eq_true (show V.str ⟨#[48]⟩ = V.str (Str.ofString "0") from rfl)] at h4
              cases h4
            have all : NumText.AllDigits w.cps.toList := fun c hc => by
              have h5 := List.all_eq_true.mp p3 c hc
              have h6 := of_decide_eq_true h5
              have h7 : ∀ c ∈ digitsS.cps.toList, 48 ≤ c ∧ c ≤ 57 := by decide +kernel
              exact h7 c h6
            refine ⟨_, rfl, w, _, rfl, PySem.intText_digits all (by rw [hcs]; simp) (by omega), by omega, ?_⟩
            have e := k H' g
            unfold posW at e
            rw [if_pos ⟨p1, p2, p3, by rw [hcs]; simpa using n48⟩] at e
            exact e
          · refine kN ?_ H' g
            have q : c0 = 48 := by
              cases q : decide (V.str ⟨#[c0]⟩ = V.str (Str.ofString "0")) with
              | true => exact e48 _ (of_decide_eq_true q)
              | false => rw [q] at h4; exact absurd rfl h4
            unfold posW
            rw [if_neg fun z => z.2.2.2 (by rw [hcs, q]; rfl)]
    · refine ⟨_, rfl, ?_⟩
      dsimp only
      refine kN ?_ H (Gr.refl H)
      unfold posW
      rw [if_neg fun z => h1 (decide_eq_true (by omega))]
end
end Sk
namespace Sk
open PySem PySem.Spec PyProof.Rows L2
abbrev s_read_entry : Stmt := topS 18
abbrev N_read_entry : List Str := ["text", "weight", "name", "words"]
theorem sc_read_entry : FnScope N_read_entry ["text"] (defScope s_read_entry) := ⟨rfl, rfl, rfl, by decide +kernel, rfl, by decide +kernel, by decide +kernel⟩
/-- the entry that a text writes -/
def readE (x : Str) : Option Ent := match Txt.split x (Str.ofString " ") with
  | n :: wd :: ps => match posW wd with
    | some w => some ⟨n, w, ps⟩
    | none => none
  | _ => none
def sp_read_entry (Tb : List (Addr × Str)) (K : PySem.W.Frag) : Sp := fun vs H Q _ => ∃ (x : Str) (e : Ent), vs = [.str x] ∧ readE x = some e ∧ x.length ≤ 1000000 ∧ (Txt.split x (Str.ofString " ")).length ≤ 1000 ∧ (∀ w ∈ Txt.split x (Str.ofString " "), w.length ≤ 1000000) ∧
  ∀ t l H', Gr Tb H H' → Nw H t → Nw H l → H' t = some (.tup [.str e.name, .int e.w, .ref l]) → H' l = some (.lst (e.parts.map V.str)) → Q (.ref t) H'
theorem cut_one (a : V) (xs : List V) : cutV (a :: xs) (some 1) none = xs := by
  have e := HT.sIx_nat (a :: xs).length 1
  unfold cutV
  rw [show (some (1 : Int)) = some ((1 : Nat) : Int) from rfl, HT.sIx_nat, HT.sIx_none]
  show List.take ((a :: xs).length - min 1 (a :: xs).length) (List.drop (min 1 (a :: xs).length) (a :: xs)) = xs
  rw [show min 1 (a :: xs).length = 1 by rw [List.length_cons]; omega]
  show List.take ((a :: xs).length - 1) xs = xs
  rw [List.length_cons, Nat.add_sub_cancel, List.take_length]
section
variable {P : Program} {w : World} {K : PySem.W.Frag} {mg : Str → Option Value} {base : Heap} {Tb : List (Addr × Str)}
theorem ok_read_entry {f : Addr} {fd : FuncData} (F : FnP K "read_entry" s_read_entry f fd) (T : Tx K mg) (G_read_positive : Fn P w K mg base "read_positive" 1 ["word"] (sp_read_positive Tb K)) : FnOk P w K mg base CX0 2 f fd ["text"] (sp_read_entry Tb K) := by
  refine F.ok sc_read_entry (fun vs H Q E h => ?_) (fun cdv A outer s H vs Q E hr h => ?_)
  · obtain ⟨_, _, rfl, _⟩ := h
    rfl
  · obtain ⟨x, e, rfl, hre, hz, hzl, hzw, k⟩ := h
    refine ⟨_, PSs.nox (pss_cons (ps_asg (pe_split (pv 0) (pe_gs T.c_SPACE)) (pg_starL rfl (pgs_cons (pg_name (i := 2) sc_read_entry.nd rfl (Or.inl rfl)) (pgs_cons (pg_name (i := 3) sc_read_entry.nd rfl (Or.inl rfl)) pgs_nil))))
      (pss_cons (ps_set (i := 1) sc_read_entry.nd rfl (Or.inl rfl) (pe_ifExp (pt_cmpR (opNeNil (K := K) rfl hr.units) (pv 3) (pe_lst pa_nil) (nomark _)) (pe_fn G_read_positive (hr.mono (by decide)) (pa_cons (pe_ix (ixL (K := K) rfl) (pv 3) pe_int (fun _ _ => rfl)) pa_nil)) pe_non))
      (pss_one (ps_ret (pe_ifExp (pt_cmpR op_notN (pv 1) pe_non (nomark _)) (pe_tup (pa_cons (pv 2) (pa_cons (pv 1) (pa_cons (pe_slice (slL (K := K) rfl) (pv 3) (po_some pe_int) po_none) pa_nil)))) pe_non))))), ?_⟩
    refine ⟨_, rfl, ⟨_, rfl⟩, x, Str.ofString " ", rfl, rfl, by decide, by rw [sizeLine_eq]; omega, fun l hl => ?_⟩
    unfold readE at hre
    generalize Txt.split x (Str.ofString " ") = sp at hre hzl hzw
    split at hre
    · rename_i n wd ps
      split at hre
      · rename_i w0 hw
        cases hre
        refine ⟨l, .str n, (wd :: ps).map V.str, rfl, SqL.of upd_same, by rw [List.length_map]; simp only [List.length_cons] at hzl ⊢; omega, fun D hD => ⟨.str n, _, rfl, .ref D, _, rfl, rfl, ?_⟩⟩
        have g0 : Gr Tb H (upd (upd H l (.lst ((n :: wd :: ps).map V.str))) D (.lst ((wd :: ps).map V.str))) := (Gr.new hl).trans (Gr.new hD)
        refine ⟨_, rfl, rd_nil (SqL.of upd_same) fun b hb => ⟨_, rfl, iteT ?_⟩⟩
        have g1 := g0.trans (Gr.new (o := .lst []) hb)
        have hD1 := (Gr.new (T := Tb) (o := .lst []) hb).at (upd_same (H := upd H l (.lst ((n :: wd :: ps).map V.str))) (a := D) (o := .lst ((wd :: ps).map V.str))) .lst
        refine ⟨_, rfl, D, _, _, _, rfl, rfl, SqL.of hD1, atI_nat (j := 0) rfl, wd, rfl, hzw wd (by simp), fun H1 g2 => ?_⟩
        rw [hw]
        refine ⟨_, rfl, rfl, _, rfl, iteT ?_⟩
        have hD2 := g2.at hD1 .lst
        refine ⟨_, rfl, _, rfl, _, rfl, _, rfl, D, _, rfl, SqL.of hD2, fun a2 ha2 => ⟨by show 3 ≤ sizeLine; decide, fun t ht => ?_⟩⟩
        have ec : cutV (List.map V.str (wd :: ps)) (some 1) none = ps.map V.str := cut_one _ _
        rw [ec] at ht ⊢
        have g3 := g1.trans g2
        have g4 := g3.trans (Gr.new (o := .lst (ps.map V.str)) ha2)
        have at' : a2 ≠ t := ne_of_none (upd_same (H := H1)) ht
        exact k t a2 _ (g4.trans (Gr.new ht)) (g4.nw (.of ht)) (g3.nw (.of ha2)) upd_same (by rw [upd_ne at', upd_same])
      · cases hre
    · cases hre
end
end Sk
namespace Sk
open PySem PySem.Spec PyProof.Rows L2
abbrev s_read_catalogue : Stmt := topS 19
abbrev N_read_catalogue : List Str := ["text", "entries", "e", "part"]
theorem sc_read_catalogue : FnScope N_read_catalogue ["text"] (defScope s_read_catalogue) := ⟨rfl, rfl, rfl, by decide +kernel, rfl, by decide +kernel, by decide +kernel⟩
/-- an entry that is new -/
def NewE (H0 H : Hp) (v : V) (e : Ent) : Prop := ∃ t l, v = .ref t ∧ Nw H0 t ∧ Nw H0 l ∧ H t = some (.tup [.str e.name, .int e.w, .ref l]) ∧ H l = some (.lst (e.parts.map V.str))
def sp_read_catalogue (Tb : List (Addr × Str)) (K : PySem.W.Frag) : Sp := fun vs H Q _ => ∃ (t : Str) (es : List Ent), vs = [.str t] ∧ t.length ≤ 1000000 ∧ (Txt.split t (Str.ofString ", ")).map readE = es.map some ∧ (∀ x ∈ Txt.split t (Str.ofString ", "), x.length ≤ 1000000 ∧ (Txt.split x (Str.ofString " ")).length ≤ 1000 ∧ ∀ w ∈ Txt.split x (Str.ofString " "), w.length ≤ 1000000) ∧ Valid es ∧ es.length ≤ 100 ∧
  ∀ r H' ys, Gr Tb H H' → Nw H r → H' r = some (.lst ys) → Paired (NewE H H') ys es → Q (.ref r) H'
theorem nameC_ok {x : Str} (h : nameB x = true) : PyData.strOk x = true := by
  unfold nameB at h
  simp only [Bool.and_eq_true, decide_eq_true_eq, List.all_eq_true] at h
  unfold PyData.strOk
  rw [← Array.all_toList, List.all_eq_true]
  intro c hc
  have h2 : ∀ c ∈ letters.cps.toList, decide (c < 0x110000) = true := by decide +kernel
  exact h2 c (h.2.2 c hc)
theorem shaped_cat {es : List Ent} (v : Valid es) : SeqAt.shaped (catD es) = true := by
  have ks : ∀ l : List Str, (∀ x ∈ l, nameB x = true) → PyData.canLayAll0 (l.map PyData.str) = true := by
    intro l
    induction l with
    | nil => intro _; simp only [List.map_nil, PyData.canLayAll0]
    | cons q l ih =>
      intro hl
      rw [List.map_cons, PyData.canLayAll0, ih fun z hz => hl z (List.mem_cons_of_mem _ hz)]
      simp only [PyData.canLay0, nameC_ok (hl q (List.mem_cons_self ..)), Bool.and_self]
  have key : ∀ l : List Ent, (∀ e ∈ l, e ∈ es) → PyData.canLayAll0 (l.map entD) = true := by
    intro l
    induction l with
    | nil => intro _; simp only [List.map_nil, PyData.canLayAll0]
    | cons e l ih =>
      intro hl
      have he := hl e (List.mem_cons_self ..)
      have hp : ∀ x ∈ e.parts, nameB x = true := fun x hx => by
        obtain ⟨e', h1, rfl, _⟩ := v.lighter e he x hx
        exact v.names e' h1
      rw [List.map_cons, PyData.canLayAll0, ih fun z hz => hl z (List.mem_cons_of_mem _ hz)]
      unfold entD
      simp only [PyData.canLay0, PyData.canLayAll0, nameC_ok (v.names e he), ks e.parts hp, Bool.and_self]
  unfold SeqAt.shaped
  rw [Bool.and_eq_true]
  refine ⟨?_, decide_eq_true (Nat.le_trans (depth_cat es) (by decide))⟩
  unfold catD
  rw [PyData.canLay0]
  exact key es fun _ h => h
theorem none_cat (es : List Ent) : ((es.map entD).any fun z => PyData.eqv z .none) = false := by
  rw [List.any_eq_false]
  intro z hz
  obtain ⟨e, _, rfl⟩ := List.mem_map.mp hz
  unfold entD
  simp [PyData.eqv]
theorem NewE.cat {H0 H : Hp} : ∀ {ys : List V} {es : List Ent}, Paired (NewE H0 H) ys es → CatAt H ys es
  | _, _, .nil => .nil
  | _, _, .cons ⟨t, l, e, _, _, h1, h2⟩ p => .cons ⟨t, l, e, h1, h2⟩ (NewE.cat p)
theorem NewE.gr {Tb : List (Addr × Str)} {H0 H H' : Hp} (g : Gr Tb H H') {ys : List V} {es : List Ent} (p : Paired (NewE H0 H) ys es) : Paired (NewE H0 H') ys es := Paired.imp (fun _ _ ⟨t, l, e, n1, n2, h1, h2⟩ => ⟨t, l, e, n1, n2, g.at h1 .tup, g.at h2 .lst⟩) p
section
variable {P : Program} {w : World} {K : PySem.W.Frag} {mg : Str → Option Value} {base : Heap} {Tb : List (Addr × Str)}
theorem ok_read_catalogue {f : Addr} {fd : FuncData} (F : FnP K "read_catalogue" s_read_catalogue f fd) (T : Tx K mg) (G_check_catalogue : Fn P w K mg base "check_catalogue" 3 ["catalogue"] (sp_check_catalogue Tb K)) (G_read_entry : Fn P w K mg base "read_entry" 2 ["text"] (sp_read_entry Tb K)) : FnOk P w K mg base CX0 4 f fd ["text"] (sp_read_catalogue Tb K) := by
  refine F.ok sc_read_catalogue (fun vs H Q E h => ?_) (fun cdv A outer s H vs Q E hr h => ?_)
  · obtain ⟨_, _, rfl, _⟩ := h
    rfl
  · obtain ⟨t, es, rfl, hz, hre, hzs, hv, hl, k⟩ := h
    refine ⟨_, PSs.nox (pss_cons (ps_setLc (i := 1) (own := [("part", 3)]) (g := (gName 3)) (tt := tYes) rfl sc_read_catalogue.nd rfl rfl (sw_true rfl rfl rfl (by decide +kernel)) (piL (K := K) rfl (pe_split (pv 0) (pe_gs T.c_COMMA))) (blkOk_by (N := N_read_catalogue) (sc := (defScope s_read_catalogue)) (by decide +kernel)) (fun _ _ _ _ _ => (pg_name (i := 3) sc_read_catalogue.nd rfl (Or.inl rfl))) (fun _ _ _ _ _ => pts_nil) (fun _ _ _ _ _ => (pe_fn G_read_entry (hr.mono (by decide)) (pa_cons (pv 3) pa_nil))))
      (pss_cons (ps_if (pt_cmpR (op_inD (hu65 hr)) pe_non (pv 1) (by with_unfolding_all rfl)) (pss_one ps_never) pss_nil)
      (pss_cons (ps_try_nox (pss_one (ps_expr (pe_fn G_check_catalogue (hr.mono (by decide)) (pa_cons (pv 1) pa_nil)))))
      (pss_one (ps_ret (pv 1)))))), ?_⟩
    refine ⟨_, rfl, ⟨_, rfl⟩, t, Str.ofString ", ", rfl, rfl, by decide, by rw [sizeLine_eq]; omega, fun l0 hl0 => ⟨l0, rfl, ⟨_, SqL.of upd_same⟩, fun D hD => ?_⟩⟩
    generalize Txt.split t (Str.ofString ", ") = sp at hre hzs hD
    have hsl : sp.length = es.length := by
      have := congrArg List.length hre
      rwa [List.length_map, List.length_map] at this
    have g0 : Gr Tb H (upd H l0 (.lst (sp.map V.str))) := Gr.new hl0
    refine lc_it (walk_list (xs := sp.map V.str)) (fun i H' => Gr Tb (upd H l0 (.lst (sp.map V.str))) H' ∧ ∃ ys, H' D = some (.lst ys) ∧ Paired (fun y e => ∃ u ls, y = V.ref u ∧ Nw H u ∧ Nw H ls ∧ ls ≠ D ∧ H' u = some (.tup [.str e.name, .int e.w, .ref ls]) ∧ H' ls = some (.lst (e.parts.map V.str))) ys (es.take i)) ⟨Gr.new hD, [], upd_same, .nil⟩ (fun i H' _ ⟨g, _⟩ => SqL.of (g.at upd_same .lst)) (fun i x H' H'' hi ⟨g, ys, hD', pr⟩ y => ?_) (fun H' ⟨g, ys, hD', pr⟩ => ?_)
    · obtain ⟨rfl, hx⟩ := y
      rw [List.getElem?_map] at hx
      cases hq : sp[i]? with
      | none => rw [hq] at hx; cases hx
      | some w =>
        rw [hq] at hx
        cases hx
        have hi2 : i < sp.length := (List.getElem?_eq_some_iff.mp hq).1
        obtain ⟨e, he⟩ : ∃ e, es[i]? = some e := ⟨_, List.getElem?_eq_getElem (by omega)⟩
        have hwe : readE w = some e := by
          have h1 := congrArg (fun l : List (Option Ent) => l[i]?) hre
          simp only [List.getElem?_map, hq, he, Option.map_some] at h1
          exact Option.some.inj h1
        obtain ⟨z1, z2, z3⟩ := hzs w (List.mem_of_getElem? hq)
        have hyl := Paired.len pr
        rw [List.length_take] at hyl
        refine ⟨rfl, _, rfl, w, e, rfl, hwe, z1, z2, z3, fun u ls H4 g4 nu nl hu hls => ?_⟩
        have hD4 := g4.at hD' .lst
        have lD : ls ≠ D := fun z => by
          obtain ⟨ps, q⟩ := nl _ (by rw [z]; exact hD')
          cases q
        have uD : u ≠ D := fun z => by
          rw [z, hD4] at hu
          cases hu
        have gg := g0.trans g
        refine ⟨ys, hD4, by rw [sizeLine_eq]; omega, Gr.put hD (g.trans g4) hD4, ys ++ [.ref u], upd_same, ?_⟩
        rw [List.take_add_one, he]
        refine Paired.snoc ⟨u, ls, rfl, gg.nw nu, gg.nw nl, lD, by rw [upd_ne uD]; exact hu, by rw [upd_ne lD]; exact hls⟩ (Paired.imp (fun y e ⟨u', ls', e1, n1, n2, n3, h1, h2⟩ => ⟨u', ls', e1, n1, n2, n3, ?_, ?_⟩) pr)
        · rw [upd_ne fun z => by rw [z, hD'] at h1; cases h1]
          exact g4.at h1 .tup
        · rw [upd_ne n3]
          exact g4.at h2 .lst
    · rw [List.length_map, hsl, List.take_length] at pr
      have pr2 : Paired (NewE H H') ys es := Paired.imp (fun y e ⟨u, ls, e1, n1, n2, _, h1, h2⟩ => ⟨u, ls, e1, n1, n2, h1, h2⟩) pr
      have hc := NewE.cat pr2
      refine ⟨_, rfl, .none, es.map entD, .non, dp_cat (SqL.of hD') hc, rfl, shaped_cat hv, _, rfl, ?_⟩
      rw [none_cat]
      refine iteF ?_
      have gg := g0.trans g
      exact ⟨_, rfl, D, ys, es, rfl, SqL.of hD', hc, hv, fun H2 g2 => ⟨_, rfl, k D H2 ys (gg.trans g2) (g0.nw (.of hD)) (g2.at hD' .lst) (NewE.gr g2 pr2)⟩⟩
end
end Sk
namespace Sk
open PySem PySem.Spec PyProof.Rows L2
abbrev s_law_source : Stmt := topS 21
abbrev N_law_source : List Str := ["script", "mix", "digits", "cell", "size"]
theorem sc_law_source : FnScope N_law_source ["script"] (defScope s_law_source) := ⟨rfl, rfl, rfl, by decide +kernel, rfl, by decide +kernel, by decide +kernel⟩
def sp_law_source (Tb : List (Addr × Str)) (K : PySem.W.Frag) : Sp := fun vs H Q _ => ∃ (a : Addr) (ns : List Int) (G : Hp), vs = [.ref a] ∧ SqL K H a (ns.map V.int) ∧ ns.length ≤ 63 ∧ Fz G H ∧ LamX.Tabs Tb H ∧ ∀ p H', Hs Tb p 0 [] G H' → Gr Tb H H' → Q (.ref p) H'
section
variable {P : Program} {w : World} {K : PySem.W.Frag} {mg : Str → Option Value} {base : Heap} {Tb : List (Addr × Str)}
theorem ok_law_source {f : Addr} {fd : FuncData} (F : FnP K "_law_source" s_law_source f fd) (T : Tx K mg) : FnOk P w K mg base CX0 1 f fd ["script"] (sp_law_source Tb K) := by
  refine F.ok sc_law_source (fun vs H Q E h => ?_) (fun cdv A outer s H vs Q E hr h => ?_)
  · obtain ⟨_, _, _, rfl, _⟩ := h
    rfl
  · obtain ⟨a, ns, G, rfl, ha, hz, fz, ht, k⟩ := h
    refine ⟨_, PSs.nox (pss_cons (ps_set (i := 1) sc_law_source.nd rfl (Or.inl rfl) pe_int)
      (pss_cons (ps_set (i := 2) sc_law_source.nd rfl (Or.inl rfl) (pe_lst pa_nil))
      (pss_cons (ps_for PassesOwn.never rfl (piL (K := K) rfl (pv 0)) (pg_name (i := 3) sc_law_source.nd rfl (Or.inl rfl)) (pss_cons (ps_set (i := 1) sc_law_source.nd rfl (Or.inl rfl) (pe_op op_mod (pe_op op_add (pe_op op_mul (pv 1) pe_int) (pv 3)) (pe_op op_sub (pe_op op_pow pe_int pe_int) pe_int)))
        (pss_cons (ps_set (i := 4) sc_law_source.nd rfl (Or.inl rfl) (pe_callB (call_max2 rfl) (by rfl) T.n_max (by decide +kernel) (pa_cons (pv 3) (pa_cons (pe_op op_sub pe_int (pv 3)) pa_nil))))
        (pss_one (ps_if (pt_cmpR op_ge (pv 4) (pe_op op_pow pe_int pe_int) (nomark _)) (pss_one (ps_expr (peBm (K := K) rfl PySem.F.plainAttrs_list PySem.F.slot_list_append PySem.F.type_list_append mt_append (pv 2) (pa_cons (pe_op op_sub (pv 4) (pe_op op_pow pe_int pe_int)) pa_nil)))) pss_nil)))))
      (pss_one (ps_ret (pe_lst (pa_cons (pv 2) (pa_cons pe_int (pa_cons (pv 1) (pa_cons pe_int pa_nil)))))))))), ?_⟩
    have e61 : (2 : Int) ^ (Int.toNat 61) - 1 = 2305843009213693951 := by decide
    have e18 : (10 : Int) ^ (Int.toNat 18) = 1000000000000000000 := by decide
    refine ⟨Nat.zero_le _, fun q hq => ?_⟩
    have g0 : Gr Tb H (upd H q (.lst [])) := Gr.new hq
    refine ⟨_, rfl, a, rfl, ⟨_, g0.ext_seq ha⟩, for_list (K := K) (a := a) (xs := ns.map V.int) (fun i σ H' => ∃ (mix : Int) (ds : List Int) (s3 s4 : Option V), σ = [some (.ref a), some (.int mix), some (.ref q), s3, s4] ∧ Gr Tb H H' ∧ H' q = some (.lst (ds.map V.int)) ∧ 0 ≤ mix ∧ mix < 2305843009213693951 ∧ (∀ d ∈ ds, 0 ≤ d) ∧ ds.length ≤ i)
      ⟨271828182845904, [], none, none, rfl, g0, upd_same, by decide, by decide, (fun d hd => by simp at hd), Nat.le_refl _⟩ (fun i σ H' _ ⟨_, _, _, _, _, g, _⟩ => g.ext_seq ha) ?_ ?_⟩
    · rintro i x σ H' hx ⟨mix, ds, s3, s4, rfl, g, hd, m0, m1, d0, dl⟩
      have hi : i < ns.length := by
        have := (List.getElem?_eq_some_iff.mp hx).1
        rwa [List.length_map] at this
      rw [List.getElem?_map, List.getElem?_eq_getElem hi] at hx
      cases hx
      generalize ns[i] = c
      refine ⟨_, rfl, _, _, rfl, rfl, .inl ⟨by omega, by omega⟩, _, rfl, _, _, rfl, rfl, _, _, rfl, rfl, ⟨by decide, by decide, by decide⟩, _, _, rfl, rfl, _, _, rfl, rfl, by show (0 : Int) < _; rw [e61]; decide, ?_⟩
      have mb0 := Int.emod_nonneg (mix * 1000033 + c) (show (2305843009213693951 : Int) ≠ 0 by decide)
      have mb1 := Int.emod_lt_of_pos (mix * 1000033 + c) (show (0 : Int) < 2305843009213693951 by decide)
      refine ⟨_, rfl, _, rfl, _, _, rfl, rfl, _, _, rfl, ?_⟩
      refine ⟨_, rfl, _, _, rfl, rfl, ⟨by decide, by decide, by decide⟩, _, _, rfl, rfl, _, rfl, ?_⟩
      rw [e18]
      refine ite2 (fun c1 => ?_) (fun c1 => ?_)
      · have c2 := of_decide_eq_true c1
        refine ⟨_, rfl, .inl ⟨rfl, _, SqL.of hd⟩, _, rfl, _, _, rfl, rfl, ⟨by decide, by decide, by decide⟩, _, _, rfl, rfl, q, _, _, rfl, rfl, hd, ?_, ?_⟩
        · rw [List.length_map, sizeLine_eq]
          omega
        · rw [e18]
          refine ⟨(mix * 1000033 + c) % 2305843009213693951, ds ++ [(if 0 - c > c then 0 - c else c) - 1000000000000000000], _, _, rfl, g.mut (.of hq) hd .lst, ?_, mb0, mb1, fun d hd => ?_, ?_⟩
          · rw [upd_same, List.map_append]
            rfl
          · rcases List.mem_append.mp hd with z | z
            · exact d0 d z
            · rw [List.mem_singleton.mp z]
              omega
          · rw [List.length_append, List.length_singleton]
            omega
      · exact ⟨(mix * 1000033 + c) % 2305843009213693951, ds, _, _, rfl, g, hd, mb0, mb1, d0, by omega⟩
    · rintro σ H' ⟨mix, ds, s3, s4, rfl, g, hd, m0, m1, d0, dl⟩
      refine ⟨_, rfl, _, rfl, by show 4 ≤ sizeLine; decide, fun p hp => ?_⟩
      have gp : G p = none := (fz.gr g).free hp
      have gq : G q = none := fz.free hq
      have qp : q ≠ p := ne_of_none hd hp
      refine k p _ ⟨⟨q, ⟨ds, 0, mix, 0, upd_same, by rw [upd_ne qp]; exact hd, d0, by decide, m0, m1, by decide, by decide⟩, gq, qp, fun x hx => by simp at hx⟩, fz.gr (g.trans (Gr.new hp)), gp, fun x hx => by simp at hx, List.nodup_nil, (g.trans (Gr.new hp)).tab ht⟩ (g.trans (Gr.new hp))
end
end Sk
namespace Sk
open PySem PySem.Spec PyProof.Rows L2
abbrev s_law_draw : Stmt := topS 22
abbrev N_law_draw : List Str := ["source", "many", "mixed", "drawn"]
theorem sc_law_draw : FnScope N_law_draw ["source", "many"] (defScope s_law_draw) := ⟨rfl, rfl, rfl, by decide +kernel, rfl, by decide +kernel, by decide +kernel⟩
def sp_law_draw (Tb : List (Addr × Str)) (K : PySem.W.Frag) : Sp := fun vs H Q _ => ∃ (p : Addr) (n : Nat) (L : List (Addr × HO)) (G : Hp) (many : Int), vs = [.ref p, .int many] ∧ Hs Tb p n L G H ∧ n < 1000000000 ∧ 1 ≤ many ∧ many < 2 ^ 200 ∧ ∀ r H', 0 ≤ r → r < many → Hs Tb p (n + 1) L G H' → Q (.int r) H'
/-- the source is written: its own list, its digits -/
theorem Hs.src_put {Tb : List (Addr × Str)} {p q : Addr} {n m : Nat} {L : List (Addr × HO)} {G H H' : Hp} (s : Hs Tb p n L G H) (hq : G q = none) (hqp : q ≠ p) (hL : ∀ x ∈ L, x.1 ≠ q)
    (hp : ∃ xs, H p = some (.lst xs)) (hq2 : ∃ xs, H q = some (.lst xs)) (e : ∀ b, b ≠ p → b ≠ q → H' b = H b) (sr : SrcAt p q m H') : Hs Tb p m L G H' := by
  obtain ⟨xs, hp⟩ := hp
  obtain ⟨ys, hq2⟩ := hq2
  have ot : ∀ b o, H b = some o → (∀ zs, o ≠ .lst zs) → H' b = some o := fun b o h no => by
    rw [e b (fun z => by rw [z, hp] at h; cases h; exact no _ rfl) (fun z => by rw [z, hq2] at h; cases h; exact no _ rfl)]
    exact h
  refine ⟨⟨q, sr, hq, hqp, hL⟩, ⟨fun b o h => ?_, s.fz.nt⟩, s.gp, fun x hx => ?_, s.nod, fun t ht => ?_⟩
  · rw [e b (fun z => by rw [z, s.gp] at h; cases h) (fun z => by rw [z, hq] at h; cases h)]
    exact s.fz.sub b o h
  · obtain ⟨c1, c2⟩ := s.cel x hx
    refine ⟨?_, c2⟩
    rw [e x.1 c2.2.1 (hL x hx)]
    exact c1
  · obtain ⟨ps, b1, b2, b3⟩ := s.tab t ht
    refine ⟨ps, ot _ _ b1 (fun _ z => by cases z), b2, fun po cv hc => ?_⟩
    obtain ⟨c', e1, e2⟩ := b3 po cv hc
    exact ⟨c', e1, ot _ _ e2 (fun _ z => by unfold LamX.CodeO at z; cases z)⟩
section
variable {P : Program} {w : World} {K : PySem.W.Frag} {mg : Str → Option Value} {base : Heap} {Tb : List (Addr × Str)}
theorem ok_law_draw {f : Addr} {fd : FuncData} (F : FnP K "_law_draw" s_law_draw f fd) (T : Tx K mg) : FnOk P w K mg base CX0 1 f fd ["source", "many"] (sp_law_draw Tb K) := by
  refine F.ok sc_law_draw (fun vs H Q E h => ?_) (fun cdv A outer s H vs Q E hr h => ?_)
  · obtain ⟨_, _, _, _, _, rfl, _⟩ := h
    rfl
  · obtain ⟨p, n, L, G, many, rfl, hs, hn, hm1, hm2, k⟩ := h
    refine ⟨_, PSs.nox (pss_cons (ps_while PassesOwn.never (PW.pt (pw_and (pt_cmpR op_lt (pe_ix (ixL (K := K) rfl) (pv 0) pe_int (fun _ _ => rfl)) pe_int (nomark _)) (pw_and1 (pt_cmpR (opNeNil (K := K) rfl hr.units) (pe_ix (ixL (K := K) rfl) (pv 0) pe_int (fun _ _ => rfl)) (pe_lst pa_nil) (nomark _))))) (pss_one (ps_asg (peBm (K := K) rfl PySem.F.plainAttrs_list PySem.F.slot_list_pop PySem.F.type_list_pop mt_popAt (pe_ix (ixL (K := K) rfl) (pv 0) pe_int (fun _ _ => rfl)) (pa_cons pe_int pa_nil)) (pg_sub (pv 0) pe_int set_list))))
      (pss_cons (ps_if (pt_cmpR op_ge (pe_ix (ixL (K := K) rfl) (pv 0) pe_int (fun _ _ => rfl)) pe_int (nomark _)) (pss_cons (ps_set (i := 3) sc_law_draw.nd rfl (Or.inl rfl) (pe_op op_mod (pe_ix (ixL (K := K) rfl) (pv 0) pe_int (fun _ _ => rfl)) (pv 1)))
        (pss_cons (ps_asg (pe_op op_fdivW (pe_ix (ixL (K := K) rfl) (pv 0) pe_int (fun _ _ => rfl)) (pv 1)) (pg_sub (pv 0) pe_int set_list))
        (pss_one (ps_ret (pv 3))))) pss_nil)
      (pss_cons (ps_asg (pe_op op_add (pe_ix (ixL (K := K) rfl) (pv 0) pe_int (fun _ _ => rfl)) pe_int) (pg_sub (pv 0) pe_int set_list))
      (pss_cons (ps_set (i := 2) sc_law_draw.nd rfl (Or.inl rfl) (pe_op op_mul (pe_op op_add (pe_ix (ixL (K := K) rfl) (pv 0) pe_int (fun _ _ => rfl)) pe_int) (pe_op op_pow (pe_op op_add (pe_ix (ixL (K := K) rfl) (pv 0) pe_int (fun _ _ => rfl)) pe_int) pe_int)))
      (pss_cons (ps_set (i := 2) sc_law_draw.nd rfl (Or.inl rfl) (pe_op op_mod (pe_op op_add (pv 2) (pe_op op_mul pe_int (pe_ix (ixL (K := K) rfl) (pv 0) pe_int (fun _ _ => rfl)))) (pe_op op_sub (pe_op op_pow pe_int pe_int) pe_int)))
      (pss_one (ps_ret (pe_op op_mod (pe_op op_fdivW (pe_op op_mod (pe_op op_pow (pv 2) pe_int) (pe_op op_add (pe_op op_pow pe_int pe_int) pe_int)) pe_int) (pv 1))))))))), ?_⟩
    -- the digits left over are m
    let J : Nat → L2.St → Hp → Prop := fun m σ H' => σ = L2.start N_law_draw [V.ref p, V.int many] ∧ Hs Tb p n L G H' ∧ ∃ q ds rest, H' p = some (.lst (.ref q :: rest)) ∧ H' q = some (.lst (List.map V.int ds)) ∧ ds.length = m
    obtain ⟨m0, j0⟩ : ∃ m, J m (L2.start N_law_draw [V.ref p, V.int many]) H := by
      obtain ⟨⟨q, ⟨ds, x, m, c, h1, h2, _⟩, _⟩, _⟩ := id hs
      exact ⟨ds.length, rfl, hs, q, ds, _, h1, h2, rfl⟩
    refine while_cps J (fun m σ H' => J m σ H' ∧ 0 < m) J m0 j0 ?test ?body ?done
    case test =>
      rintro m σ H1 ⟨rfl, hs1, q, ds, rest, hp1, hq1, hl⟩ R hT hF
      obtain ⟨⟨q', ⟨ds', x, mm, c, h1, h2, h3, h4, h5, h6, h7, h8⟩, gq, qp, Lq⟩, _⟩ := id hs1
      rw [hp1] at h1
      cases h1
      refine ⟨_, rfl, p, _, _, _, rfl, rfl, SqL.of hp1, atI_nat (j := 1) rfl, _, _, rfl, rfl, _, rfl, ?_⟩
      refine ite2 (fun c1 => ?_) (fun c1 => hF H1 ⟨rfl, hs1, q, ds, _, hp1, hq1, hl⟩)
      refine ⟨_, rfl, p, _, _, _, rfl, rfl, SqL.of hp1, atI_nat (j := 0) rfl, rd_nil (SqL.of hq1) fun b hb => ⟨_, rfl, ?_⟩⟩
      have j2 : J m (L2.start N_law_draw [V.ref p, V.int many]) (upd H1 b (.lst [])) :=
        ⟨rfl, hs1.gr (Gr.new hb), q, ds, _, by rw [upd_ne (ne_of_none hp1 hb)]; exact hp1, by rw [upd_ne (ne_of_none hq1 hb)]; exact hq1, hl⟩
      cases ds with
      | nil => exact hF _ j2
      | cons d ds => exact hT _ ⟨j2, by rw [← hl, List.length_cons]; omega⟩
    case body =>
      rintro m σ H1 ⟨⟨rfl, hs1, q, ds, rest, hp1, hq1, hl⟩, hm⟩
      obtain ⟨⟨q', ⟨ds', x, mm, c, h1, h2, h3, h4, h5, h6, h7, h8⟩, gq, qp, Lq⟩, _⟩ := id hs1
      rw [hp1] at h1
      cases h1
      have eds : ds = ds' := by
        rw [hq1] at h2
        have e := congrArg (fun o : Option HO => match o with | some (.lst xs) => xs.map (fun v => match v with | V.int i => i | _ => 0) | _ => []) h2
        simpa [Function.comp_def] using e
      subst eds
      cases ds with
      | nil => rw [List.length_nil] at hl; omega
      | cons d ds =>
        refine ⟨_, rfl, p, _, _, _, rfl, rfl, SqL.of hp1, atI_nat (j := 0) rfl, .inl ⟨rfl, _, SqL.of hq1⟩, q, _, 0, 0, _, rfl, rfl, hq1, by decide, by decide, ?_, rfl, _, rfl, p, [.ref q, .int x, .int mm, .int c], 1, 1, rfl, rfl, ?_, rfl, ?_⟩
        · simp [seqIndex?]
        · rw [upd_ne (Ne.symm qp)]
          exact hp1
        · have pq := Ne.symm qp
          refine ⟨ds.length, by rw [← hl, List.length_cons]; omega, rfl, hs1.src_put gq qp Lq ⟨_, hp1⟩ ⟨_, hq1⟩ (fun b h1 h2 => by rw [upd_ne h1, upd_ne h2]) ⟨ds, d, mm, c, upd_same, by rw [upd_ne qp, upd_same]; rfl, fun z hz => h3 z (List.mem_cons_of_mem _ hz), h3 d (List.mem_cons_self ..), h5, h6, h7, h8⟩, q, ds, _, upd_same, by rw [upd_ne qp, upd_same]; rfl, rfl⟩
    case done =>
      rintro m σ H1 ⟨rfl, hs1, q, ds, rest, hp1, hq1, hl⟩
      obtain ⟨⟨q', ⟨ds', x, mm, c, h1, h2, h3, h4, h5, h6, h7, h8⟩, gq, qp, Lq⟩, _⟩ := id hs1
      rw [hp1] at h1
      cases h1
      have pq := Ne.symm qp
      refine ⟨_, rfl, p, _, _, _, rfl, rfl, SqL.of hp1, atI_nat (j := 1) rfl, _, _, rfl, rfl, _, rfl, ?_⟩
      refine ite2 (fun c1 => ?_) (fun c1 => ?_)
      · refine ⟨_, rfl, p, _, _, _, rfl, rfl, SqL.of hp1, atI_nat (j := 1) rfl, _, rfl, _, _, rfl, rfl, by omega, ?_⟩
        refine ⟨_, rfl, p, _, _, _, rfl, rfl, SqL.of hp1, atI_nat (j := 1) rfl, _, rfl, _, _, rfl, rfl, wide_div (b := 200) (by omega) (by omega) (by decide) (by decide), _, rfl, p, [.ref q, .int x, .int mm, .int c], 1, 1, rfl, rfl, hp1, rfl, _, rfl, ?_⟩
        refine k _ _ (Int.emod_nonneg _ (by omega)) (Int.emod_lt_of_pos _ (by omega)) ?_
        exact hs1.src_put gq qp Lq ⟨_, hp1⟩ ⟨_, h2⟩ (fun b h1 h2 => by rw [upd_ne h1]) ⟨ds', x / many, mm, c, upd_same, by rw [upd_ne qp]; exact h2, h3, Int.ediv_nonneg h4 (by omega), h5, h6, h7, by omega⟩
      · refine ⟨_, rfl, p, _, _, _, rfl, rfl, SqL.of hp1, atI_nat (j := 3) rfl, _, _, rfl, rfl, _, rfl, p, [.ref q, .int x, .int mm, .int c], 3, 3, rfl, rfl, hp1, rfl, ?_⟩
        have e61 : (2 : Int) ^ (Int.toNat 61) - 1 = 2305843009213693951 := by decide
        have e18 : (10 : Int) ^ (Int.toNat 18) + 9 = 1000000000000000009 := by decide
        have hb : ∀ z : Int, (z % ((2 : Int) ^ (Int.toNat 61) - 1)).natAbs < 2 ^ 64 := fun z => by
          rw [e61]
          have h1 := Int.emod_nonneg z (show (2305843009213693951 : Int) ≠ 0 by decide)
          have h2 := Int.emod_lt_of_pos z (show (0 : Int) < 2305843009213693951 by decide)
          omega
        refine ⟨_, rfl, p, _, _, _, rfl, rfl, SqL.of upd_same, atI_nat (j := 2) rfl, _, _, rfl, rfl, _, rfl, p, _, _, _, rfl, rfl, SqL.of upd_same, atI_nat (j := 3) rfl, _, _, rfl, rfl, _, _, rfl, rfl, ⟨by decide, by decide, by omega⟩, _, _, rfl, rfl, .inl ⟨by omega, by omega⟩, ?_⟩
        refine ⟨_, rfl, _, rfl, p, _, _, _, rfl, rfl, SqL.of upd_same, atI_nat (j := 3) rfl, _, _, rfl, rfl, .inl ⟨by decide, by decide⟩, _, _, rfl, rfl, _, _, rfl, rfl, ⟨by decide, by decide, by decide⟩, _, _, rfl, rfl, _, _, rfl, rfl, by show (0 : Int) < _; rw [e61]; decide, ?_⟩
        refine ⟨_, rfl, _, _, rfl, rfl, ⟨by decide, by decide, hb _⟩, _, _, rfl, rfl, ⟨by decide, by decide, by decide⟩, _, _, rfl, rfl, _, _, rfl, rfl, by show (0 : Int) < _; rw [e18]; decide, _, _, rfl, rfl, wide_div (b := 200) (by decide) (by decide) (by decide) (by decide), _, rfl, _, _, rfl, rfl, by omega, ?_⟩
        refine k _ _ (Int.emod_nonneg _ (by omega)) (Int.emod_lt_of_pos _ (by omega)) ?_
        exact hs1.src_put gq qp Lq ⟨_, hp1⟩ ⟨_, h2⟩ (fun b h1 h2 => by rw [upd_ne h1]) ⟨ds', x, mm, c + 1, upd_same, by rw [upd_ne qp]; exact h2, h3, h4, h5, h6, by omega, by omega⟩
end
end Sk
namespace Sk
open PySem PySem.Spec PyProof.Rows L2
abbrev s_law_same : Stmt := topS 23
abbrev N_law_same : List Str := ["found", "wanted", "k"]
theorem sc_law_same : FnScope N_law_same ["found", "wanted"] (defScope s_law_same) := ⟨rfl, rfl, rfl, by decide +kernel, rfl, by decide +kernel, by decide +kernel⟩
/-- values of the same data, of depth below n -/
def sp_same (Tb : List (Addr × Str)) (K : PySem.W.Frag) (n : Nat) : Sp := fun vs H Q _ => ∃ (x y : V) (d : PyData), vs = [x, y] ∧ Dp K H x d ∧ Dp K H y d ∧ d.depth < n ∧ cnt d ≤ 16000000 ∧ ∀ H', Gr Tb H H' → Q (.bl true) H'
abbrev sp_law_same (Tb : List (Addr × Str)) (K : PySem.W.Frag) : Sp := sp_same Tb K 5
section
variable {P : Program} {w : World} {K : PySem.W.Frag} {mg : Str → Option Value} {base : Heap} {Tb : List (Addr × Str)}
/-- lists or tuples: the last return -/
theorem same_items {Tb : List (Addr × Str)} {K : PySem.W.Frag} {n : Nat} {x y : Addr} {xs ys : List V} {ds : List PyData} {H : Hp} {Q : VK} (hx : SqL K H x xs ∨ SqT K H x xs) (hy : SqL K H y ys ∨ SqT K H y ys) (ax : DpAll K H xs ds) (ay : DpAll K H ys ds) (hz : cntAll ds < 16000000) (hd : PyData.depthAll ds < n)
    (k : ∀ H', Gr Tb H H' → Q (.bl true) H') :
    tOp (rNil K false) (tLc (iRng1 (tCons (tCB (rLenL K) (tCons (tVar 1) tNil)) tNil)) (gName 2)
      (tNot (tB (tCall (sp_same Tb K n) [] E0 (tCons (tOp (rIxA K) (tVar 0) (tVar 2)) (tCons (tOp (rIxA K) (tVar 1) (tVar 2)) tNil))))) (tVar 2) [2]) (tLst tNil) (L2.start N_law_same [.ref x, .ref y]) H Q := by
  have lx := DpAll.len ax
  have ly := DpAll.len ay
  have hcl := cnt_len ds
  refine ⟨_, rfl, y, ys, rfl, hy, (ys.length : Int), rfl, by omega, by omega, fun D hD => lc_range (lo := 0) (n := ys.length) (fun i H' => Gr Tb H H' ∧ H' D = some (.lst [])) ⟨Gr.new hD, upd_same⟩ ?_ ?_⟩
  · rintro i H' hi ⟨g, hd'⟩
    obtain ⟨d, hdi⟩ : ∃ d, ds[i]? = some d := ⟨_, List.getElem?_eq_getElem (by omega)⟩
    obtain ⟨u, hu, du⟩ := DpAll.at ax hdi
    obtain ⟨v, hv, dv⟩ := DpAll.at ay hdi
    have up : ∀ {a : Addr} {zs : List V}, SqL K H a zs ∨ SqT K H a zs → SqL K H' a zs ∨ SqT K H' a zs := fun h => h.imp g.ext_seq g.ext_tup
    have e0 : (0 : Int) + (i : Int) = (i : Int) := by omega
    refine ⟨rfl, _, rfl, _, rfl, x, xs, _, u, rfl, rfl, up hx, by rw [e0]; exact atI_nat hu, _, rfl, _, rfl, y, ys, _, v, rfl, rfl, up hy, by rw [e0]; exact atI_nat hv, u, v, d, rfl, Dp.gr g du, Dp.gr g dv, ?_, ?_, fun H2 g2 => ⟨true, rfl, ?_⟩⟩
    · have := depth_mem (List.mem_of_getElem? hdi)
      omega
    · have := cnt_mem (List.mem_of_getElem? hdi)
      omega
    · exact ⟨g.trans g2, g2.at hd' .lst⟩
  · rintro H' ⟨g, hd'⟩
    exact rd_nil (SqL.of hd') fun b hb => k _ (g.trans (Gr.new hb))
theorem ok_same {f : Addr} {fd : FuncData} (F : FnP K "_law_same" s_law_same f fd) (T : Tx K mg) (hm : mg "_law_same" = some (.ref f)) (hk : PySem.W.keepIn K (.ref f) = true) (hb : Binds K fd ["found", "wanted"] []) : ∀ n, FnOk P w K mg base CX0 n f fd ["found", "wanted"] (sp_same Tb K n)
  | 0 => ⟨fun _ _ _ _ ⟨_, _, _, _, _, _, z, _⟩ => by omega, fun _ _ _ _ _ _ _ _ _ _ _ _ _ ⟨_, _, _, _, _, _, z, _⟩ => by omega⟩
  | n + 1 => by
    have G_law_same : Fn P w K mg base "_law_same" n ["found", "wanted"] (sp_same Tb K n) := ⟨f, fd, ok_same F T hm hk hb n, hm, hk, hb⟩
    refine F.ok sc_law_same (fun vs H Q E h => ?_) (fun cdv A outer s H vs Q E hr h => ?_)
    · obtain ⟨_, _, _, rfl, _⟩ := h
      rfl
    · obtain ⟨x, y, d, rfl, hx, hy, hd, hz, k⟩ := h
      refine ⟨_, PSs.nox (pss_cons (ps_if (pt_cmpR op_isN (pv 1) pe_non (nomark _)) (pss_one (ps_ret (pe_cmpR op_isN (pv 0) pe_non (nomark _)))) pss_nil)
      (pss_cons (ps_if (pt_val (pe_callB (isiR (K := K) rfl) (by rfl) T.n_isinstance (by decide +kernel) (pa_cons (pv 1) (pa_cons (pe_bltn (v := V.ty "bool") (u := Value.type "bool") (by rfl) T.n_bool (by decide +kernel) (by exact rfl)) pa_nil)))) (pss_one (ps_ret (pe_and (pe_callB (isiR (K := K) rfl) (by rfl) T.n_isinstance (by decide +kernel) (pa_cons (pv 0) (pa_cons (pe_bltn (v := V.ty "bool") (u := Value.type "bool") (by rfl) T.n_bool (by decide +kernel) (by exact rfl)) pa_nil))) (pe_one (pe_cmpR op_eq (pv 0) (pv 1) (nomark _)))))) pss_nil)
      (pss_cons (ps_if (pt_val (pe_callB (isiR (K := K) rfl) (by rfl) T.n_isinstance (by decide +kernel) (pa_cons (pv 1) (pa_cons (pe_bltn (v := V.ty "int") (u := Value.type "int") (by rfl) T.n_int (by decide +kernel) (by exact rfl)) pa_nil)))) (pss_one (ps_ret (pe_and (pe_callB (isiR (K := K) rfl) (by rfl) T.n_isinstance (by decide +kernel) (pa_cons (pv 0) (pa_cons (pe_bltn (v := V.ty "int") (u := Value.type "int") (by rfl) T.n_int (by decide +kernel) (by exact rfl)) pa_nil))) (pe_and (pe_not (pe_callB (isiR (K := K) rfl) (by rfl) T.n_isinstance (by decide +kernel) (pa_cons (pv 0) (pa_cons (pe_bltn (v := V.ty "bool") (u := Value.type "bool") (by rfl) T.n_bool (by decide +kernel) (by exact rfl)) pa_nil)))) (pe_one (pe_cmpR op_eq (pv 0) (pv 1) (nomark _))))))) pss_nil)
      (pss_cons (ps_if (pt_val (pe_callB (isiR (K := K) rfl) (by rfl) T.n_isinstance (by decide +kernel) (pa_cons (pv 1) (pa_cons (pe_bltn (v := V.ty "str") (u := Value.type "str") (by rfl) T.n_str (by decide +kernel) (by exact rfl)) pa_nil)))) (pss_one (ps_ret (pe_and (pe_callB (isiR (K := K) rfl) (by rfl) T.n_isinstance (by decide +kernel) (pa_cons (pv 0) (pa_cons (pe_bltn (v := V.ty "str") (u := Value.type "str") (by rfl) T.n_str (by decide +kernel) (by exact rfl)) pa_nil))) (pe_one (pe_cmpR op_eq (pv 0) (pv 1) (nomark _)))))) pss_nil)
      (pss_cons (ps_if (pt_cmpR op_ne (pe_callB (isiR (K := K) rfl) (by rfl) T.n_isinstance (by decide +kernel) (pa_cons (pv 0) (pa_cons (pe_bltn (v := V.ty "list") (u := Value.type "list") (by rfl) T.n_list (by decide +kernel) (by exact rfl)) pa_nil))) (pe_callB (isiR (K := K) rfl) (by rfl) T.n_isinstance (by decide +kernel) (pa_cons (pv 1) (pa_cons (pe_bltn (v := V.ty "list") (u := Value.type "list") (by rfl) T.n_list (by decide +kernel) (by exact rfl)) pa_nil))) (nomark _)) (pss_one (ps_ret pe_bl)) pss_nil)
      (pss_cons (ps_if (PW.pt (pw_or (pt_cmpR op_ne (pe_callB (isiR (K := K) rfl) (by rfl) T.n_isinstance (by decide +kernel) (pa_cons (pv 0) (pa_cons (pe_bltn (v := V.ty "tuple") (u := Value.type "tuple") (by rfl) T.n_tuple (by decide +kernel) (by exact rfl)) pa_nil))) (pe_callB (isiR (K := K) rfl) (by rfl) T.n_isinstance (by decide +kernel) (pa_cons (pv 1) (pa_cons (pe_bltn (v := V.ty "tuple") (u := Value.type "tuple") (by rfl) T.n_tuple (by decide +kernel) (by exact rfl)) pa_nil))) (nomark _)) (pw_or1 (pt_cmpR op_ne (pe_callB (lenS (K := K) rfl) (by rfl) T.n_len (by decide +kernel) (pa_cons (pv 0) pa_nil)) (pe_callB (lenS (K := K) rfl) (by rfl) T.n_len (by decide +kernel) (pa_cons (pv 1) pa_nil)) (nomark _))))) (pss_one (ps_ret pe_bl)) pss_nil)
      (pss_one (ps_ret (pe_cmpR (opEqNil (K := K) rfl hr.units) (pe_lc (own := [("k", 2)]) (g := (gName 2)) (tt := _) rfl sc_law_same.nd (pi_range1 (by rfl) T.n_range (pa_cons (pe_callB (lenS (K := K) rfl) (by rfl) T.n_len (by decide +kernel) (pa_cons (pv 1) pa_nil)) pa_nil)) (blkOk_by (N := N_law_same) (sc := (defScope s_law_same)) (by decide +kernel)) (fun _ _ _ _ _ => (pg_name (i := 2) sc_law_same.nd rfl (Or.inl rfl))) (fun _ _ _ _ _ => (pts_one (pt_not (pt_val (pe_fn G_law_same hr (pa_cons (pe_ix (ixA (K := K) rfl) (pv 0) (pv 2) (fun _ _ => rfl)) (pa_cons (pe_ix (ixA (K := K) rfl) (pv 1) (pv 2) (fun _ _ => rfl)) pa_nil))))))) (fun _ _ _ _ _ => (pv 2))) (pe_lst pa_nil) (nomark _)))))))))), ?_⟩
      have kH := k H (Gr.refl H)
      cases d with
      | none =>
        cases hx
        cases hy
        exact ⟨_, rfl, rfl, _, rfl, _, rfl, rfl, kH⟩
      | bool b =>
        cases hx
        cases hy
        refine ⟨_, rfl, rfl, _, rfl, ?_⟩
        refine ⟨_, rfl, _, _, _, _, _, rfl, .ty _, Dp.tyx (.bl b), kit_ty (r := true) rfl, _, rfl, ?_⟩
        refine ⟨_, rfl, _, _, _, _, _, rfl, .ty _, Dp.tyx (.bl b), kit_ty (r := true) rfl, _, rfl, ?_⟩
        refine ⟨_, rfl, _, rfl, rfl, ?_⟩
        rw [decide_eq_true rfl]
        exact kH
      | int i =>
        cases hx
        cases hy
        refine ⟨_, rfl, rfl, _, rfl, ?_⟩
        refine ⟨_, rfl, _, _, _, _, _, rfl, .ty _, Dp.tyx (.int i), kit_ty (r := false) rfl, _, rfl, ?_⟩
        refine ⟨_, rfl, _, _, _, _, _, rfl, .ty _, Dp.tyx (.int i), kit_ty (r := true) rfl, _, rfl, ?_⟩
        refine ⟨_, rfl, _, _, _, _, _, rfl, .ty _, Dp.tyx (.int i), kit_ty (r := true) rfl, _, rfl, ?_⟩
        refine ⟨_, rfl, _, _, _, _, _, rfl, .ty _, Dp.tyx (.int i), kit_ty (r := false) rfl, _, rfl, _, rfl, ?_⟩
        refine ⟨_, rfl, _, rfl, rfl, ?_⟩
        rw [decide_eq_true rfl]
        exact kH
      | str z =>
        cases hx
        cases hy
        refine ⟨_, rfl, rfl, _, rfl, ?_⟩
        refine ⟨_, rfl, _, _, _, _, _, rfl, .ty _, Dp.tyx (.str z), kit_ty (r := false) rfl, _, rfl, ?_⟩
        refine ⟨_, rfl, _, _, _, _, _, rfl, .ty _, Dp.tyx (.str z), kit_ty (r := false) rfl, _, rfl, ?_⟩
        refine ⟨_, rfl, _, _, _, _, _, rfl, .ty _, Dp.tyx (.str z), kit_ty (r := true) rfl, _, rfl, ?_⟩
        refine ⟨_, rfl, _, _, _, _, _, rfl, .ty _, Dp.tyx (.str z), kit_ty (r := true) rfl, _, rfl, ?_⟩
        refine ⟨_, rfl, _, rfl, rfl, ?_⟩
        rw [decide_eq_true rfl]
        exact kH
      | list ds =>
        have hx0 := hx
        have hy0 := hy
        cases hx with
        | lst sx ax =>
        cases hy with
        | lst sy ay =>
        refine ⟨_, rfl, rfl, _, rfl, ?_⟩
        refine ⟨_, rfl, _, _, _, _, _, rfl, .ty _, Dp.tyx hy0, kit_ty (r := false) rfl, _, rfl, ?_⟩
        refine ⟨_, rfl, _, _, _, _, _, rfl, .ty _, Dp.tyx hy0, kit_ty (r := false) rfl, _, rfl, ?_⟩
        refine ⟨_, rfl, _, _, _, _, _, rfl, .ty _, Dp.tyx hy0, kit_ty (r := false) rfl, _, rfl, ?_⟩
        refine ⟨_, rfl, _, _, _, _, _, rfl, .ty _, Dp.tyx hx0, kit_ty (r := true) rfl, _, rfl, _, _, _, _, _, rfl, .ty _, Dp.tyx hy0, kit_ty (r := true) rfl, rfl, _, rfl, ?_⟩
        refine ⟨_, rfl, _, _, _, _, _, rfl, .ty _, Dp.tyx hx0, kit_ty (r := false) rfl, _, rfl, _, _, _, _, _, rfl, .ty _, Dp.tyx hy0, kit_ty (r := false) rfl, rfl, _, rfl, ?_⟩
        refine ⟨_, rfl, _, _, rfl, .inl sx, _, rfl, _, _, rfl, .inl sy, rfl, _, rfl, ?_⟩
        rw [DpAll.len ax, DpAll.len ay, decide_eq_true rfl]
        rw [PyData.depth] at hd
        rw [cnt] at hz
        exact iteF (same_items (.inl sx) (.inl sy) ax ay (by omega) (by omega) k)
      | tuple ds =>
        have hx0 := hx
        have hy0 := hy
        cases hx with
        | tup sx ax =>
        cases hy with
        | tup sy ay =>
        refine ⟨_, rfl, rfl, _, rfl, ?_⟩
        refine ⟨_, rfl, _, _, _, _, _, rfl, .ty _, Dp.tyx hy0, kit_ty (r := false) rfl, _, rfl, ?_⟩
        refine ⟨_, rfl, _, _, _, _, _, rfl, .ty _, Dp.tyx hy0, kit_ty (r := false) rfl, _, rfl, ?_⟩
        refine ⟨_, rfl, _, _, _, _, _, rfl, .ty _, Dp.tyx hy0, kit_ty (r := false) rfl, _, rfl, ?_⟩
        refine ⟨_, rfl, _, _, _, _, _, rfl, .ty _, Dp.tyx hx0, kit_ty (r := false) rfl, _, rfl, _, _, _, _, _, rfl, .ty _, Dp.tyx hy0, kit_ty (r := false) rfl, rfl, _, rfl, ?_⟩
        refine ⟨_, rfl, _, _, _, _, _, rfl, .ty _, Dp.tyx hx0, kit_ty (r := true) rfl, _, rfl, _, _, _, _, _, rfl, .ty _, Dp.tyx hy0, kit_ty (r := true) rfl, rfl, _, rfl, ?_⟩
        refine ⟨_, rfl, _, _, rfl, .inr sx, _, rfl, _, _, rfl, .inr sy, rfl, _, rfl, ?_⟩
        rw [DpAll.len ax, DpAll.len ay, decide_eq_true rfl]
        rw [PyData.depth] at hd
        rw [cnt] at hz
        exact iteF (same_items (.inr sx) (.inr sy) ax ay (by omega) (by omega) k)
      | dict _ => cases hx
end
end Sk
namespace Sk
open PySem PySem.Spec PyProof.Rows L2
abbrev s_law_shuffled : Stmt := topS 24
abbrev N_law_shuffled : List Str := ["source", "items", "left", "k"]
theorem sc_law_shuffled : FnScope N_law_shuffled ["source", "items"] (defScope s_law_shuffled) := ⟨rfl, rfl, rfl, by decide +kernel, rfl, by decide +kernel, by decide +kernel⟩
def sp_law_shuffled (Tb : List (Addr × Str)) (K : PySem.W.Frag) : Sp := fun vs H Q _ => ∃ (p a : Addr) (n : Nat) (L : List (Addr × HO)) (G : Hp) (xs : List V), vs = [.ref p, .ref a] ∧ Hs Tb p n L G H ∧ SqL K H a xs ∧ xs.length ≤ 100000 ∧ n + xs.length < 1000000000 ∧
  ∀ r H' ys, ys.Perm xs → Hs Tb p (n + xs.length) ((r, .lst ys) :: L) G H' → Q (.ref r) H'
section
variable {P : Program} {w : World} {K : PySem.W.Frag} {mg : Str → Option Value} {base : Heap} {Tb : List (Addr × Str)}
theorem ok_law_shuffled {f : Addr} {fd : FuncData} (F : FnP K "_law_shuffled" s_law_shuffled f fd) (T : Tx K mg) (G_law_draw : Fn P w K mg base "_law_draw" 1 ["source", "many"] (sp_law_draw Tb K)) : FnOk P w K mg base CX0 2 f fd ["source", "items"] (sp_law_shuffled Tb K) := by
  refine F.ok sc_law_shuffled (fun vs H Q E h => ?_) (fun cdv A outer s H vs Q E hr h => ?_)
  · obtain ⟨_, _, _, _, _, _, rfl, _⟩ := h
    rfl
  · obtain ⟨p, a, n, L, G, xs, rfl, hs, ha, hz, hn, k⟩ := h
    refine ⟨_, PSs.nox (pss_cons (ps_set (i := 2) sc_law_shuffled.nd rfl (Or.inr rfl) (pe_callTy (listOf (K := K) rfl) (by rfl) T.n_list (by decide +kernel) (pa_cons (pv 1) pa_nil)))
      (pss_one (ps_ret (pe_lc (own := [("k", 3)]) (g := (gName 3)) (tt := tYes) rfl sc_law_shuffled.nd (pi_range1 (by rfl) T.n_range (pa_cons (pe_callB (lenS (K := K) rfl) (by rfl) T.n_len (by decide +kernel) (pa_cons (pv 2) pa_nil)) pa_nil)) (blkOk_by (N := N_law_shuffled) (sc := (defScope s_law_shuffled)) (by decide +kernel)) (fun _ _ _ _ _ => (pg_name (i := 3) sc_law_shuffled.nd rfl (Or.inl rfl))) (fun _ _ _ _ _ => pts_nil) (fun _ _ _ _ _ => (peBm (K := K) rfl PySem.F.plainAttrs_list PySem.F.slot_list_pop PySem.F.type_list_pop mt_popAt (pv 2) (pa_cons (pe_fn G_law_draw (hr.mono (by decide)) (pa_cons (pv 0) (pa_cons (pe_callB (lenS (K := K) rfl) (by rfl) T.n_len (by decide +kernel) (pa_cons (pv 2) pa_nil)) pa_nil))) pa_nil))))))), ?_⟩
    refine ⟨_, rfl, a, xs, rfl, .inl ha, fun l hl => ?_⟩
    have hs1 := hs.new hl (.lst (xs := xs))
    refine ⟨_, rfl, l, xs, rfl, .inl (SqL.of upd_same), (xs.length : Int), rfl, by omega, by omega, fun D hD => lc_range (lo := 0) (n := xs.length) (fun i H' => ∃ acc rest : List V, (acc ++ rest).Perm xs ∧ acc.length = i ∧ Hs Tb p (n + i) ((D, .lst acc) :: (l, .lst rest) :: L) G H') ⟨[], xs, .refl _, rfl, hs1.new hD .lst⟩ ?_ ?_⟩
    · rintro i H' hi ⟨acc, rest, hp, hl', h2⟩
      have hlen := hp.length_eq
      rw [List.length_append] at hlen
      refine ⟨rfl, _, rfl, .inl ⟨rfl, _, SqL.of (h2.get (i := 1) rfl)⟩, _, rfl, _, rfl, l, rest, rfl, .inl (SqL.of (h2.get (i := 1) rfl)), p, n + i, _, G, (rest.length : Int), rfl, h2, by omega, by omega, by show (rest.length : Int) < 2 ^ 200; omega, fun r H4 r0 r1 h4 => ?_⟩
      obtain ⟨y, hy⟩ : ∃ y, rest[r.toNat]? = some y := ⟨_, List.getElem?_eq_getElem (by omega)⟩
      have h5 := h4.put (i := 1) (o' := .lst (rest.eraseIdx r.toNat)) rfl .lst
      have h6 := h5.put (i := 0) (o' := .lst (acc ++ [y])) rfl .lst
      refine ⟨l, rest, r, r.toNat, y, rfl, rfl, h4.get (i := 1) rfl, by omega, by omega, ?_, hy, acc, h5.get (i := 0) rfl, ?_, acc ++ [y], rest.eraseIdx r.toNat, ?_, ?_, h6⟩
      · exact seq_ix r0 r1
      · rw [sizeLine_eq]
        omega
      · refine List.Perm.trans ?_ hp
        rw [List.append_assoc]
        refine List.Perm.append_left acc ?_
        exact erase_perm rest r.toNat y hy
      · rw [List.length_append, List.length_singleton, hl']
    · rintro H' ⟨acc, rest, hp, hl', h2⟩
      have hlen := hp.length_eq
      rw [List.length_append] at hlen
      have hr : rest = [] := List.length_eq_zero_iff.mp (by omega)
      rw [hr, List.append_nil] at hp
      exact k D H' acc hp (h2.sub (.cons₂ _ (.cons _ (.refl _))))
end
end Sk
namespace Sk
open PySem PySem.Spec PyProof.Rows L2
abbrev s_law_names : Stmt := topS 25
abbrev N_law_names : List Str := ["source", "pool", "letter"]
theorem sc_law_names : FnScope N_law_names ["source"] (defScope s_law_names) := ⟨rfl, rfl, rfl, by decide +kernel, rfl, by decide +kernel, by decide +kernel⟩
def sp_law_names (Tb : List (Addr × Str)) (K : PySem.W.Frag) : Sp := fun vs H Q _ => ∃ (p : Addr) (n : Nat) (L : List (Addr × HO)) (G : Hp), vs = [.ref p] ∧ Hs Tb p n L G H ∧ n + 40 < 1000000000 ∧
  ∀ r H' (ns : List Str), ns.Nodup → ns.length = 40 → (∀ x ∈ ns, nameB x = true) → Str.ofString "nobody" ∉ ns → Hs Tb p (n + 40) ((r, .lst (ns.map V.str)) :: L) G H' → Q (.ref r) H'
def namesAt (i : Nat) : List Str := (["a", "aa", "aaa", "ab", "b", "ba", "z", "zz", "split", "undo", "abcdefgh", "abcdefgi", "zzzzzzzz", "zzzzzzzy"] : List Str) ++ (("cdefghijklmno" : Str).cps.toList.take i).flatMap fun c => [⟨#[c]⟩, (⟨#[c]⟩ : Str) ++ ("x" : Str)]
theorem names_nodup : (namesAt 13).Nodup := by decide +kernel
theorem names_good : ∀ x ∈ namesAt 13, nameB x = true := by decide +kernel
theorem names_nobody : Str.ofString "nobody" ∉ namesAt 13 := by decide +kernel
theorem names_len : (namesAt 13).length = 40 := by decide +kernel
theorem namesAt_len : ∀ i, (namesAt i).length ≤ 14 + 2 * i := by
  intro i
  unfold namesAt
  rw [List.length_append]
  have : ∀ l : List Nat, (l.flatMap fun c => [(⟨#[c]⟩ : Str), (⟨#[c]⟩ : Str) ++ ("x" : Str)]).length = 2 * l.length := by
    intro l
    induction l with
    | nil => rfl
    | cons a l ih =>
      rw [List.flatMap_cons, List.length_append, ih, List.length_cons]
      show 2 + 2 * l.length = 2 * (l.length + 1)
      omega
  rw [this, List.length_take]
  show 14 + _ ≤ _
  omega
theorem namesAt_succ {i : Nat} {c : Nat} (h : ("cdefghijklmno" : Str).cps.toList[i]? = some c) : namesAt (i + 1) = namesAt i ++ [⟨#[c]⟩, (⟨#[c]⟩ : Str) ++ ("x" : Str)] := by
  unfold namesAt
  rw [List.take_add_one, h, List.flatMap_append, ← List.append_assoc]
  rfl
section
variable {P : Program} {w : World} {K : PySem.W.Frag} {mg : Str → Option Value} {base : Heap} {Tb : List (Addr × Str)}
theorem ok_law_names {f : Addr} {fd : FuncData} (F : FnP K "_law_names" s_law_names f fd) (T : Tx K mg) (G_law_shuffled : Fn P w K mg base "_law_shuffled" 2 ["source", "items"] (sp_law_shuffled Tb K)) : FnOk P w K mg base CX0 3 f fd ["source"] (sp_law_names Tb K) := by
  refine F.ok sc_law_names (fun vs H Q E h => ?_) (fun cdv A outer s H vs Q E hr h => ?_)
  · obtain ⟨_, _, _, _, rfl, _⟩ := h
    rfl
  · obtain ⟨p, n, L, G, rfl, hs, hn, k⟩ := h
    refine ⟨_, PSs.nox (pss_cons (ps_set (i := 1) sc_law_names.nd rfl (Or.inl rfl) (pe_lst (pa_cons pe_str (pa_cons pe_str (pa_cons pe_str (pa_cons pe_str (pa_cons pe_str (pa_cons pe_str (pa_cons pe_str (pa_cons pe_str (pa_cons pe_str (pa_cons pe_str (pa_cons pe_str (pa_cons pe_str (pa_cons pe_str pa_nil)))))))))))))))
      (pss_cons (ps_expr (peBm (K := K) rfl PySem.F.plainAttrs_list PySem.F.slot_list_append PySem.F.type_list_append mt_append (pv 1) (pa_cons pe_str pa_nil)))
      (pss_cons (ps_for PassesOwn.never rfl (pi_str pe_str) (pg_name (i := 2) sc_law_names.nd rfl (Or.inl rfl)) (pss_one (ps_set (i := 1) sc_law_names.nd rfl (Or.inl rfl) (pe_op op_cat (pv 1) (pe_lst (pa_cons (pv 2) (pa_cons (pe_op op_add_str (pv 2) pe_str) pa_nil)))))))
      (pss_one (ps_ret (pe_fn G_law_shuffled (hr.mono (by decide)) (pa_cons (pv 0) (pa_cons (pv 1) pa_nil)))))))), ?_⟩
    refine ⟨by show _ ≤ sizeLine; decide, fun a ha => ?_⟩
    have h0 : Nw H a := .of ha
    have g0 : Gr Tb H (upd H a (.lst ((namesAt 0).dropLast.map V.str))) := Gr.new ha
    refine ⟨_, rfl, .inl ⟨rfl, _, SqL.of upd_same⟩, a, _, _, rfl, rfl, upd_same, by decide, ?_⟩
    have g1 : Gr Tb H (upd (upd H a (.lst ((namesAt 0).dropLast.map V.str))) a (.lst ((namesAt 0).map V.str))) := g0.mut h0 upd_same .lst
    refine ⟨_, rfl, for_it (walk_text (z := "cdefghijklmno")) (fun i σ H' => ∃ (b : Addr) (s2 : Option V), σ = [some (.ref p), some (.ref b), s2] ∧ Gr Tb H H' ∧ H' b = some (.lst ((namesAt i).map V.str)))
      ⟨a, none, rfl, g1, upd_same⟩ (fun _ _ _ _ _ => trivial) ?_ ?_⟩
    · rintro i x σ H1 H2 hi ⟨b, s2, rfl, g, hb⟩ ⟨rfl, hx⟩
      unfold signs at hx
      rw [List.getElem?_map] at hx
      cases hc : ("cdefghijklmno" : Str).cps.toList[i]? with
      | none => rw [hc] at hx; cases hx
      | some c =>
        rw [hc] at hx
        cases hx
        refine ⟨_, rfl, _, rfl, _, rfl, _, _, rfl, rfl, by show 1 + 1 ≤ sizeLine; decide, by show 2 ≤ sizeLine; decide, fun q hq => ?_⟩
        refine ⟨_, _, _, _, rfl, rfl, by rw [upd_ne (ne_of_none hb hq)]; exact hb, upd_same, ?_, fun r hr => ?_⟩
        · have := namesAt_len i
          have : i < 13 := hi
          rw [List.length_map, sizeLine_eq]
          show _ + 2 ≤ _
          omega
        · refine ⟨r, _, rfl, (g.trans (Gr.new hq)).trans (Gr.new hr), ?_⟩
          rw [upd_same, namesAt_succ hc, List.map_append]
          rfl
    · rintro σ H1 ⟨b, s2, rfl, g, hb⟩
      have hl : ((namesAt 13).map V.str).length = 40 := by rw [List.length_map, names_len]
      refine ⟨_, rfl, _, rfl, p, b, n, L, G, (namesAt 13).map V.str, rfl, hs.gr g, SqL.of hb, by omega, by omega, fun r H' ys hp h' => ?_⟩
      obtain ⟨ns, rfl, hp2⟩ := perm_map V.str hp
      rw [hl] at h'
      exact k r H' ns (hp2.nodup_iff.mpr names_nodup) (hp2.length_eq.trans names_len) (fun x hx => names_good x (hp2.mem_iff.mp hx)) (fun hx => names_nobody (hp2.mem_iff.mp hx)) h'
end
end Sk
namespace Sk
open PySem PySem.Spec PyProof.Rows L2
abbrev s_law_entries : Stmt := topS 26
abbrev N_law_entries : List Str := ["source", "most", "found", "weight", "name", "wide", "lighter", "size", "other", "its_weight", "parts", "k"]
theorem sc_law_entries : FnScope N_law_entries ["source", "most"] (defScope s_law_entries) := ⟨rfl, rfl, rfl, by decide +kernel, rfl, by decide +kernel, by decide +kernel⟩
/-- the lists of parts of different entries are different lists -/
def PNd (G : Hp) (ys : List V) : Prop := (ys.filterMap (itemAt G 2)).Nodup
/-- entries as the law makes them -/
structure Made (es : List Ent) : Prop where
  v : Valid es
  few : es.length ≤ 40
  fewp : ∀ e ∈ es, e.parts.length ≤ 6
  wt : ∀ e ∈ es, e.w < 10 ^ 13
  nb : ∀ e ∈ es, e.name ≠ Str.ofString "nobody"
def sp_law_entries (Tb : List (Addr × Str)) (K : PySem.W.Frag) : Sp := fun vs H Q _ => ∃ (p : Addr) (n : Nat) (L : List (Addr × HO)) (G : Hp) (most : Int), vs = [.ref p, .int most] ∧ Hs Tb p n L G H ∧ n + 1000 < 1000000000 ∧ 1 ≤ most ∧ most ≤ 39 ∧
  ∀ r H' G' ys es, Same G G' → CatAt G' ys es → PNd G' ys → Made es → es.length ≤ most → Hs Tb p (n + 1000) ((r, .lst ys) :: L) G' H' → Q (.ref r) H'
theorem Made.perm {es es' : List Ent} (p : es'.Perm es) (v : Made es) : Made es' :=
  ⟨v.v.perm p, by rw [p.length_eq]; exact v.few, fun e he => v.fewp e (p.mem_iff.mp he), fun e he => v.wt e (p.mem_iff.mp he), fun e he => v.nb e (p.mem_iff.mp he)⟩
theorem nameB_shw {x : Str} (h : nameB x = true) : ShwS x := by
  unfold nameB at h
  simp only [Bool.and_eq_true, decide_eq_true_eq, List.all_eq_true] at h
  refine ⟨h.2.1, fun c hc => ?_⟩
  have h1 := h.2.2 c hc
  have h2 : ∀ c ∈ letters.cps.toList, c < 16 ^ 8 := by decide +kernel
  exact h2 c h1
theorem Valid.part {es : List Ent} (v : Valid es) {e : Ent} (he : e ∈ es) {q : Str} (hq : q ∈ e.parts) : nameB q = true := by
  obtain ⟨e', h1, rfl, _⟩ := v.lighter e he q hq
  exact v.names e' h1
theorem Made.shw {es : List Ent} (m : Made es) : ∀ e ∈ es, ShwE e := fun e he =>
  ⟨nameB_shw (m.v.names e he), by have h1 := m.wt e he; have h2 := m.v.pos e he; have : e.w.natAbs < 10 ^ 13 := by omega
                                  exact Nat.lt_trans this (by decide), Nat.le_trans (m.fewp e he) (by decide), fun q hq => nameB_shw (m.v.part he hq)⟩
/-- one more kind that nobody has -/
theorem Made.nobody {es : List Ent} (m : Made es) {w : Int} (h : 1 ≤ w) : Valid (⟨Str.ofString "nobody", w, []⟩ :: es) := by
  refine ⟨by simp, fun e he => ?_, ?_, fun e he => ?_, fun e he q hq => ?_, ?_, fun e he => ?_⟩
  · rcases List.mem_cons.mp he with rfl | he
    · show nameB (Str.ofString "nobody") = true
      decide +kernel
    · exact m.v.names e he
  · rw [List.map_cons, List.nodup_cons]
    refine ⟨fun hm => ?_, m.v.nodup⟩
    obtain ⟨e, he, z⟩ := List.mem_map.mp hm
    exact m.nb e he z
  · rcases List.mem_cons.mp he with rfl | he
    · exact h
    · exact m.v.pos e he
  · rcases List.mem_cons.mp he with rfl | he
    · cases hq
    · obtain ⟨e', a, b⟩ := m.v.lighter e he q hq
      exact ⟨e', List.mem_cons_of_mem _ a, b⟩
  · have := m.few
    rw [List.length_cons]
    omega
  · rcases List.mem_cons.mp he with rfl | he
    · exact Nat.zero_le _
    · exact m.v.fewp e he
/-- what is made so far -/
structure MadeAt (ns : List Str) (i : Nat) (w : Int) (es : List Ent) : Prop where
  names : es.map (·.name) = ns.take i
  pos : ∀ e ∈ es, 1 ≤ e.w ∧ e.w ≤ w
  lighter : ∀ e ∈ es, ∀ q ∈ e.parts, ∃ e' ∈ es, e'.name = q ∧ e'.w < e.w
  fewp : ∀ e ∈ es, e.parts.length ≤ 6
  w1 : 1 ≤ w
  w2 : w ≤ 1 + 40000000000 * (i : Int)
theorem MadeAt.step {ns : List Str} {i : Nat} {w w' : Int} {es : List Ent} {x : Str} {ps : List Str} (m : MadeAt ns i w es) (hx : ns[i]? = some x) (h1 : w ≤ w') (h2 : w' ≤ w + 40000000000)
    (hp : ∀ q ∈ ps, ∃ e' ∈ es, e'.name = q ∧ e'.w < w') (hl : ps.length ≤ 6) : MadeAt ns (i + 1) w' (es ++ [⟨x, w', ps⟩]) := by
  refine ⟨?_, fun e he => ?_, fun e he q hq => ?_, fun e he => ?_, Int.le_trans m.w1 h1, ?_⟩
  · rw [List.map_append, m.names, take_snoc hx]
    rfl
  · rcases List.mem_append.mp he with z | z
    · have := m.pos e z
      omega
    · rw [List.mem_singleton.mp z]
      have := m.w1
      exact ⟨by show 1 ≤ w'; omega, Int.le_refl _⟩
  · rcases List.mem_append.mp he with z | z
    · obtain ⟨e', a, b⟩ := m.lighter e z q hq
      exact ⟨e', List.mem_append_left _ a, b⟩
    · rw [List.mem_singleton.mp z] at hq ⊢
      obtain ⟨e', a, b⟩ := hp q hq
      exact ⟨e', List.mem_append_left _ a, b⟩
  · rcases List.mem_append.mp he with z | z
    · exact m.fewp e z
    · rw [List.mem_singleton.mp z]
      exact hl
  · have := m.w2
    omega
theorem MadeAt.made {ns : List Str} {w : Int} {es : List Ent} (m : MadeAt ns ns.length w es) (hn : ns.Nodup) (h0 : ns ≠ []) (h1 : ns.length ≤ 40) (hg : ∀ x ∈ ns, nameB x = true) (hb : Str.ofString "nobody" ∉ ns) : Made es ∧ es.length = ns.length := by
  have hnm := m.names
  rw [List.take_length] at hnm
  have hle : es.length = ns.length := by rw [← hnm, List.length_map]
  have hin : ∀ e ∈ es, e.name ∈ ns := fun e he => by
    rw [← hnm]
    exact List.mem_map.mpr ⟨e, he, rfl⟩
  refine ⟨⟨⟨fun z => h0 ?_, fun e he => hg _ (hin e he), by rw [hnm]; exact hn, fun e he => (m.pos e he).1, m.lighter, by omega, fun e he => Nat.le_trans (m.fewp e he) (by decide)⟩, by omega, m.fewp, fun e he => ?_, fun e he z => hb (z ▸ hin e he)⟩, hle⟩
  · rw [z] at hnm
    exact hnm.symm
  · have := (m.pos e he).2
    have := m.w2
    omega
theorem PNd.step {G G2 : Hp} {ys : List V} {es : List Ent} {t D : Addr} {a b : V} (h : PNd G ys) (hc : CatAt G ys es) (hD : G D = none) (s : Same G G2) (ht : G2 t = some (.tup [a, b, .ref D])) : PNd G2 (ys ++ [.ref t]) := by
  have e : ∀ {ys : List V} {es : List Ent}, CatAt G ys es → ys.filterMap (itemAt G2 2) = ys.filterMap (itemAt G 2) ∧ V.ref D ∉ ys.filterMap (itemAt G 2) := by
    intro ys es hc
    clear h
    induction hc with
    | nil => exact ⟨rfl, by simp⟩
    | cons a _ ih =>
      obtain ⟨t, l, rfl, h1, h2⟩ := a
      rw [List.filterMap_cons, List.filterMap_cons, itemAt_tup h1, itemAt_tup (s _ _ h1), ih.1]
      refine ⟨rfl, fun hm => ?_⟩
      rcases List.mem_cons.mp hm with z | z
      · cases z
        rw [hD] at h2
        cases h2
      · exact ih.2 z
  unfold PNd
  rw [List.filterMap_append, (e hc).1]
  have : [V.ref t].filterMap (itemAt G2 2) = [.ref D] := by
    rw [List.filterMap_cons, itemAt_tup ht]
    rfl
  rw [this]
  refine List.nodup_append.mpr ⟨h, by simp, fun x hx y hy => ?_⟩
  rw [List.mem_singleton.mp hy]
  exact fun z => (e hc).2 (z ▸ hx)
/-- the comprehension of the lighter ones -/
def lightO (H : Hp) (w : Int) (v : V) : Option V := match itemAt H 1 v with
  | some (.int u) => if u < w then itemAt H 0 v else none
  | _ => none
theorem lightO_at {H : Hp} {w : Int} {v : V} {e : Ent} (h : EntAt H v e) : lightO H w v = if e.w < w then some (V.str e.name) else none := by
  obtain ⟨t, l, rfl, ht, _⟩ := h
  unfold lightO
  rw [itemAt_tup ht, itemAt_tup ht]
  rfl
section
variable {P : Program} {w : World} {K : PySem.W.Frag} {mg : Str → Option Value} {base : Heap} {Tb : List (Addr × Str)}
theorem ok_law_entries {f : Addr} {fd : FuncData} (F : FnP K "_law_entries" s_law_entries f fd) (T : Tx K mg) (G_law_draw : Fn P w K mg base "_law_draw" 1 ["source", "many"] (sp_law_draw Tb K)) (G_law_names : Fn P w K mg base "_law_names" 3 ["source"] (sp_law_names Tb K)) (G_law_shuffled : Fn P w K mg base "_law_shuffled" 2 ["source", "items"] (sp_law_shuffled Tb K)) : FnOk P w K mg base CX0 4 f fd ["source", "most"] (sp_law_entries Tb K) := by
  refine F.ok sc_law_entries (fun vs H Q E h => ?_) (fun cdv A outer s H vs Q E hr h => ?_)
  · obtain ⟨_, _, _, _, _, rfl, _⟩ := h
    rfl
  · obtain ⟨p, n, L, G, most, rfl, hs, hn, hm1, hm2, k⟩ := h
    refine ⟨_, PSs.nox (pss_cons (ps_set (i := 2) sc_law_entries.nd rfl (Or.inl rfl) (pe_lst pa_nil))
      (pss_cons (ps_set (i := 3) sc_law_entries.nd rfl (Or.inr rfl) pe_int)
      (pss_cons (ps_for PassesOwn.never rfl (piL (K := K) rfl (pe_slice (slL (K := K) rfl) (pe_fn G_law_names (hr.mono (by decide)) (pa_cons (pv 0) pa_nil)) po_none (po_some (pe_op op_add pe_int (pe_fn G_law_draw (hr.mono (by decide)) (pa_cons (pv 0) (pa_cons (pv 1) pa_nil))))))) (pg_name (i := 4) sc_law_entries.nd rfl (Or.inl rfl)) (pss_cons (ps_set (i := 5) sc_law_entries.nd rfl (Or.inl rfl) (pe_ix (ixL (K := K) rfl) (pe_lst (pa_cons pe_int (pa_cons (pe_op op_pow pe_int pe_int) (pa_cons (pe_op op_mul pe_int (pe_op op_pow pe_int pe_int)) pa_nil)))) (pe_fn G_law_draw (hr.mono (by decide)) (pa_cons (pv 0) (pa_cons pe_int pa_nil))) (fun _ _ => rfl)))
        (pss_cons (ps_set (i := 3) sc_law_entries.nd rfl (Or.inr rfl) (pe_op op_add (pv 3) (pe_ix (ixL (K := K) rfl) (pe_lst (pa_cons pe_int (pa_cons pe_int (pa_cons (pe_fn G_law_draw (hr.mono (by decide)) (pa_cons (pv 0) (pa_cons (pv 5) pa_nil))) pa_nil)))) (pe_fn G_law_draw (hr.mono (by decide)) (pa_cons (pv 0) (pa_cons pe_int pa_nil))) (fun _ _ => rfl))))
        (pss_cons (ps_set (i := 6) sc_law_entries.nd rfl (Or.inr rfl) (pe_lc (own := [("other", 8), ("its_weight", 9), ("parts", 10)]) (g := (gTup K 3 (gCons (gName 8) (gCons (gName 9) (gCons (gName 10) gNil))))) (tt := _) rfl sc_law_entries.nd (piL (K := K) rfl (pv 2)) (blkOk_by (N := N_law_entries) (sc := (defScope s_law_entries)) (by decide +kernel)) (fun _ _ _ _ _ => (pg_tup rfl (pgs_cons (pg_name (i := 8) sc_law_entries.nd rfl (Or.inl rfl)) (pgs_cons (pg_name (i := 9) sc_law_entries.nd rfl (Or.inl rfl)) (pgs_cons (pg_name (i := 10) sc_law_entries.nd rfl (Or.inl rfl)) pgs_nil))))) (fun _ _ _ _ _ => (pts_one (pt_cmpR op_lt (pv 9) (pv 3) (nomark _)))) (fun _ _ _ _ _ => (pv 8))))
        (pss_cons (ps_set (i := 7) sc_law_entries.nd rfl (Or.inl rfl) (pe_ifExp (pt_cmpR (opNeNil (K := K) rfl hr.units) (pv 6) (pe_lst pa_nil) (nomark _)) (pe_ix (ixL (K := K) rfl) (pe_lst (pa_cons pe_int (pa_cons pe_int (pa_cons pe_int (pa_cons pe_int (pa_cons pe_int (pa_cons (pe_fn G_law_draw (hr.mono (by decide)) (pa_cons (pv 0) (pa_cons pe_int pa_nil))) pa_nil))))))) (pe_fn G_law_draw (hr.mono (by decide)) (pa_cons (pv 0) (pa_cons pe_int pa_nil))) (fun _ _ => rfl)) pe_int))
        (pss_one (ps_expr (peBm (K := K) rfl PySem.F.plainAttrs_list PySem.F.slot_list_append PySem.F.type_list_append mt_append (pv 2) (pa_cons (pe_tup (pa_cons (pv 4) (pa_cons (pv 3) (pa_cons (pe_lc (own := [("k", 11)]) (g := (gName 11)) (tt := tYes) rfl sc_law_entries.nd (pi_range1 (by rfl) T.n_range (pa_cons (pv 7) pa_nil)) (blkOk_by (N := N_law_entries) (sc := (defScope s_law_entries)) (by decide +kernel)) (fun _ _ _ _ _ => (pg_name (i := 11) sc_law_entries.nd rfl (Or.inl rfl))) (fun _ _ _ _ _ => pts_nil) (fun _ _ _ _ _ => (pe_ix (ixL (K := K) rfl) (pv 6) (pe_fn G_law_draw (hr.mono (by decide)) (pa_cons (pv 0) (pa_cons (pe_callB (lenS (K := K) rfl) (by rfl) T.n_len (by decide +kernel) (pa_cons (pv 6) pa_nil)) pa_nil))) (fun _ _ => rfl)))) pa_nil)))) pa_nil)))))))))
      (pss_one (ps_ret (pe_fn G_law_shuffled (hr.mono (by decide)) (pa_cons (pv 0) (pa_cons (pv 2) pa_nil)))))))), ?_⟩
    refine ⟨Nat.zero_le _, fun f hf => ?_⟩
    have hs1 := hs.new hf (.lst (xs := []))
    refine ⟨_, rfl, p, n, _, G, rfl, hs1, by omega, fun a1 H2 ns hnd hnl hng hnb hs2 => ?_⟩
    refine ⟨_, rfl, _, rfl, p, n + 40, _, G, most, rfl, hs2, by omega, hm1, by show most < 2 ^ 200; omega, fun d H3 d0 d1 hs3 => ?_⟩
    refine ⟨_, _, rfl, rfl, _, rfl, a1, _, rfl, SqL.of (hs3.get (i := 0) rfl), fun a2 ha2 => ?_⟩
    have ecut : cutV (ns.map V.str) none (some (1 + d)) = (ns.take (1 + d).toNat).map V.str := by
      rw [cut_take (by omega), List.map_take]
    rw [ecut]
    generalize hsn : ns.take (1 + d).toNat = sn
    have snl : sn.length = (1 + d).toNat := by rw [← hsn, List.length_take, hnl]; omega
    have snd : sn.Nodup := by rw [← hsn]; exact hnd.sublist (List.take_sublist _ _)
    have sng : ∀ x ∈ sn, nameB x = true := fun x hx => hng x (by rw [← hsn] at hx; exact List.mem_of_mem_take hx)
    have snb : Str.ofString "nobody" ∉ sn := fun hx => hnb (by rw [← hsn] at hx; exact List.mem_of_mem_take hx)
    have sn0 : sn ≠ [] := fun z => by rw [z] at snl; simp at snl; omega
    have snl2 : (sn.map V.str).length = sn.length := List.length_map ..
    have snl3 : (sn.length : Int) ≤ most := by omega
    clear ecut hsn
    have hs4 := (hs3.drop1.new ha2 (.lst (xs := sn.map V.str))).freeze
    generalize hG0 : upd G a2 (.lst (sn.map V.str)) = G0 at hs4
    have gg : Same G G0 := by rw [← hG0]; exact Same.upd (hs3.gfree ha2)
    have g0a : G0 a2 = some (.lst (sn.map V.str)) := by rw [← hG0]; exact upd_same
    clear hG0
    refine ⟨_, rfl, ⟨_, SqL.of upd_same⟩, for_list (K := K) (a := a2) (xs := sn.map V.str) (fun i σ H' => ∃ (w : Int) (G1 : Hp) (ys : List V) (es : List Ent) (s4 s5 s6 s7 : Option V), σ = [some (.ref p), some (.int most), some (.ref f), some (.int w), s4, s5, s6, s7, none, none, none, none] ∧ Same G0 G1 ∧ CatAt G1 ys es ∧ PNd G1 ys ∧ MadeAt sn i w es ∧ Hs Tb p (n + 41 + 11 * i) ((f, .lst ys) :: L) G1 H')
      ⟨1, G0, [], [], none, none, none, none, rfl, fun _ _ e => e, .nil, List.nodup_nil, ⟨rfl, by simp, by simp, by simp, by decide, by decide⟩, hs4⟩
      (fun i σ H' _ ⟨w, G1, ys, es, _, _, _, _, _, gs, _, _, _, h'⟩ => SqL.of (h'.fzat (gs _ _ g0a))) ?_ ?_⟩
    · rintro i x σ H1 hx ⟨w, G1, ys, es, s4, s5, s6, s7, rfl, gs, hc, hpn, hma, h1⟩
      have hi : i < sn.length := by
        have := (List.getElem?_eq_some_iff.mp hx).1
        rwa [List.length_map] at this
      rw [List.getElem?_map, List.getElem?_eq_getElem hi] at hx
      cases hx
      have hxn : sn[i]? = some sn[i] := List.getElem?_eq_getElem hi
      generalize sn[i] = nm at hxn
      -- wide
      refine ⟨_, _, rfl, rfl, ⟨by decide, by decide, by decide⟩, _, _, rfl, rfl, ⟨by decide, by decide, by decide⟩, _, _, rfl, rfl, .inl ⟨by decide, by decide⟩, by show 3 ≤ sizeLine; decide, fun l hl => ?_⟩
      refine ⟨_, rfl, p, _, _, G1, 3, rfl, h1.new hl .lst, by omega, by decide, by decide, fun d H2 d0 d1 h2 => ?_⟩
      obtain ⟨wide, ew, w9, w10⟩ := pick_int (P := fun i => 9 ≤ i ∧ i ≤ 40000000000) [9, 10 ^ 10, 4 * 10 ^ 10] rfl d0 d1 (by decide)
      refine ⟨l, _, d, .int wide, rfl, rfl, SqL.of (h2.get (i := 0) rfl), ew, ?_⟩
      have h3 := h2.drop1
      clear h2 ew
      -- weight
      refine ⟨_, rfl, _, rfl, _, rfl, p, _, _, G1, wide, rfl, h3, by omega, by omega, by show wide < 2 ^ 200; omega, fun dw H3 dw0 dw1 h4 => ⟨by show 3 ≤ sizeLine; decide, fun l2 hl2 => ?_⟩⟩
      refine ⟨_, rfl, p, _, _, G1, 3, rfl, h4.new hl2 .lst, by omega, by decide, by decide, fun d2 H4 d20 d21 h5 => ?_⟩
      obtain ⟨wd, ewd, wd0, wd1⟩ := pick_int (P := fun i => 0 ≤ i ∧ i ≤ 40000000000) [0, 1, dw] rfl d20 d21 (by simp; omega)
      refine ⟨l2, _, d2, .int wd, rfl, rfl, SqL.of (h5.get (i := 0) rfl), ewd, _, _, rfl, rfl, ?_⟩
      have h6 := h5.drop1
      clear h5 ewd
      -- lighter
      have hcl : CatAt H4 ys es := hc.mono h6.fz.sub
      have hyl := Paired.len hc
      have hnl2 : es.length ≤ 40 := by
        have := congrArg List.length hma.names
        rw [List.length_map, List.length_take] at this
        omega
      refine ⟨_, rfl, f, rfl, ⟨_, SqL.of (h6.get (i := 0) rfl)⟩, fun D hD => lc_fm (Tb := Tb) (xs := ys) walk_list rfl (lightO H4 (w + wd)) hD (by omega) (fun H' g => SqL.of (g.at (h6.get (i := 0) rfl) .lst)) (fun j v H' hv g Rk Rs hk hks => ?_) fun H5 g5 hD5 => ?_⟩
      · obtain ⟨e, he, hev⟩ := Paired.at hcl hv
        have hlo := lightO_at (w := w + wd) hev
        obtain ⟨t, lp, rfl, ht, hlp⟩ := hev
        refine gtup3 (g.at ht .tup) ⟨rfl, _, rfl, _, rfl, _, _, rfl, rfl, _, rfl, ?_⟩
        refine ite2 (fun c1 => ?_) (fun c1 => ?_)
        · have c2 := of_decide_eq_true c1
          exact ⟨_, rfl, hk _ _ (by rw [hlo, if_pos c2]) (Gr.refl _)⟩
        · exact hks _ (by rw [hlo, if_neg (fun z => c1 (decide_eq_true z))]) (Gr.refl _)
      have elt : ys.filterMap (lightO H4 (w + wd)) = ((es.filter fun e => decide (e.w < w + wd)).map (·.name)).map V.str := by
        rw [fm_pairedO (g := fun e => if e.w < w + wd then some (V.str e.name) else none) (fun v e h => lightO_at h) hcl]
        clear hcl hc hma hyl hnl2
        induction es with
        | nil => rfl
        | cons e es ih =>
          rw [List.filterMap_cons, List.filter_cons]
          by_cases c : e.w < w + wd
          · rw [if_pos c, if_pos (decide_eq_true c), ih]
            rfl
          · rw [if_neg c, if_neg (by rw [decide_eq_true_eq]; exact c), ih]
      rw [elt] at hD5
      have h7 := h6.grow g5 (.of hD) hD5 .lst
      have hlight : ∀ q ∈ (es.filter fun e => decide (e.w < w + wd)).map (·.name), ∃ e' ∈ es, e'.name = q ∧ e'.w < w + wd := fun q hq => by
        obtain ⟨e, he, rfl⟩ := List.mem_map.mp hq
        obtain ⟨a, b⟩ := List.mem_filter.mp he
        exact ⟨e, a, rfl, of_decide_eq_true b⟩
      have hll : ((es.filter fun e => decide (e.w < w + wd)).map (·.name)).length ≤ 40 := by
        rw [List.length_map]
        exact Nat.le_trans (List.length_filter_le _ _) hnl2
      generalize (es.filter fun e => decide (e.w < w + wd)).map (·.name) = lt at h7 hlight hll
      clear elt hD5 hcl h6
      -- size
      refine goN ?_
      dsimp only
      refine sq_asg (fun x H6 => ∃ sz : Nat, x = .int sz ∧ sz ≤ 6 ∧ (lt = [] → sz = 0) ∧ Hs Tb p (n + 41 + 11 * i + 5) ((D, .lst (lt.map V.str)) :: (f, .lst ys) :: L) G1 H6) (fun Q' kq => ?_) ?_
      · refine ⟨_, rfl, rd_nil (SqL.of (h7.get (i := 0) rfl)) fun b hb => ⟨_, rfl, ?_⟩⟩
        have h8 := (h7.new hb (.lst (xs := []))).drop1
        cases lt with
        | nil => exact kq _ _ ⟨0, rfl, by decide, fun _ => rfl, h8.mono (by omega)⟩
        | cons l0 lt' =>
          refine ⟨_, rfl, p, _, _, G1, 7, rfl, h8, by omega, by decide, by decide, fun ds H6 ds0 ds1 h9 => ⟨by show 6 ≤ sizeLine; decide, fun l3 hl3 => ?_⟩⟩
          refine ⟨_, rfl, p, _, _, G1, 6, rfl, h9.new hl3 .lst, by omega, by decide, by decide, fun d3 H7 d30 d31 h10 => ?_⟩
          obtain ⟨sz, esz, sz0, sz1⟩ := pick_int (P := fun i => 0 ≤ i ∧ i ≤ 6) [0, 1, 2, 2, 3, ds] rfl d30 d31 (by simp; omega)
          obtain ⟨sz, rfl⟩ := Int.eq_ofNat_of_zero_le sz0
          exact ⟨l3, _, d3, .int sz, rfl, rfl, SqL.of (h10.get (i := 0) rfl), esz, kq _ _ ⟨sz, rfl, by omega, (fun z => by cases z), h10.drop1⟩⟩
      · rintro x H6 ⟨sz, rfl, sz6, szn, h8⟩
        refine ⟨_, rfl, .inl ⟨rfl, _, SqL.of (h8.get (i := 1) rfl)⟩, _, rfl, _, rfl, _, rfl, (sz : Int), rfl, by omega, by omega, fun D2 hD2 => lc_range (lo := 0) (n := sz) (fun j H' => ∃ acc : List Str, acc.length = j ∧ (∀ q ∈ acc, q ∈ lt) ∧ Hs Tb p (n + 41 + 11 * i + 5 + j) ((D2, .lst (acc.map V.str)) :: (D, .lst (lt.map V.str)) :: (f, .lst ys) :: L) G1 H') ⟨[], rfl, by simp, h8.new hD2 .lst⟩ ?_ ?_⟩
        · rintro j H' hj ⟨acc, hal, hin, h9⟩
          have hlt0 : 0 < lt.length := by
            cases lt with
            | nil => rw [szn rfl] at hj; omega
            | cons _ _ => rw [List.length_cons]; omega
          refine ⟨rfl, _, rfl, _, rfl, _, rfl, D, _, rfl, .inl (SqL.of (h9.get (i := 1) rfl)), p, _, _, G1, (lt.length : Int), ?_, h9, by omega, by omega, by show (lt.length : Int) < 2 ^ 200; omega, fun r H7 r0 r1 h10 => ?_⟩
          · rw [List.length_map]
            rfl
          · obtain ⟨y, hy, ey⟩ := pick_at (xs := lt.map V.str) r0 (by rw [List.length_map]; exact r1)
            obtain ⟨q, hq, rfl⟩ := List.mem_map.mp hy
            refine ⟨D, _, r, .str q, rfl, rfl, SqL.of (h10.get (i := 1) rfl), ey, _, h10.get (i := 0) rfl, ?_, acc ++ [q], ?_, fun q2 hq2 => ?_, ?_⟩
            · rw [List.length_map, sizeLine_eq]
              omega
            · rw [List.length_append, List.length_singleton, hal]
            · rcases List.mem_append.mp hq2 with z | z
              · exact hin q2 z
              · rw [List.mem_singleton.mp z]
                exact hq
            · have h11 := h10.put (i := 0) (o' := .lst ((acc ++ [q]).map V.str)) rfl .lst
              rw [List.map_append] at h11 ⊢
              exact h11
        · rintro H7 ⟨ps, hpl, hpi, h9⟩
          refine ⟨by show 3 ≤ sizeLine; decide, fun t ht => ?_⟩
          have gD : G1 D2 = none := h9.cfree
          have h10 := h9.drop2.freeze
          have gt : upd G1 D2 (.lst (ps.map V.str)) t = none := h10.gfree ht
          have h11 := (h10.new ht (.tup (xs := [.str nm, .int (w + wd), .ref D2]))).freeze
          have Dt : D2 ≠ t := ne_of_none (upd_same (H := G1)) gt
          have s1 : Same G1 (upd (upd G1 D2 (.lst (ps.map V.str))) t (.tup [.str nm, .int (w + wd), .ref D2])) := fun b u e => Same.upd gt b u (Same.upd gD b u e)
          refine ⟨f, ys, _, rfl, rfl, h11.get (i := 0) rfl, by rw [sizeLine_eq]; omega, ?_⟩
          refine ⟨w + wd, _, ys ++ [.ref t], es ++ [⟨nm, w + wd, ps⟩], _, _, _, _, rfl, fun b u e => s1 b u (gs b u e), Paired.snoc ⟨t, D2, rfl, upd_same, ?_⟩ (hc.mono s1), hpn.step hc gD s1 upd_same, hma.step hxn (by omega) (by omega) (fun q hq => hlight q (hpi q hq)) (by omega), ?_⟩
          · exact (h11.put (i := 0) rfl .lst).mono (by omega)
          · rw [upd_ne Dt]
            exact upd_same
    · rintro σ H1 ⟨w, G1, ys, es, s4, s5, s6, s7, rfl, gs, hc, hpn, hma, h1⟩
      rw [snl2] at hma h1
      obtain ⟨hmd, hel⟩ := hma.made snd sn0 (by omega) sng snb
      have hyl := Paired.len hc
      refine ⟨_, rfl, _, rfl, p, f, _, _, G1, ys, rfl, h1, SqL.of (h1.get (i := 0) rfl), by omega, by omega, fun r H' ys' hp h' => ?_⟩
      obtain ⟨es', pe, hc'⟩ := Paired.perm hp hc
      exact k r H' G1 ys' es' (fun b u e => gs b u (gg b u e)) hc' ((hp.filterMap _).nodup_iff.mpr hpn) (hmd.perm pe) (by rw [pe.length_eq, hel]; exact snl3) (h'.drop2.mono (by omega))
end
end Sk
namespace Sk
open PySem PySem.Spec PyProof.Rows L2
abbrev s_law_long : Stmt := topS 28
abbrev N_law_long : List Str := ["source", "drawn", "k"]
theorem sc_law_long : FnScope N_law_long ["source"] (defScope s_law_long) := ⟨rfl, rfl, rfl, by decide +kernel, rfl, by decide +kernel, by decide +kernel⟩
def sp_law_long (Tb : List (Addr × Str)) (K : PySem.W.Frag) : Sp := fun vs H Q _ => ∃ (p : Addr) (n : Nat) (L : List (Addr × HO)) (G : Hp), vs = [.ref p] ∧ Hs Tb p n L G H ∧ n + 10 < 1000000000 ∧ ∀ r H', 1 ≤ r → r < 10 ^ 60 → Hs Tb p (n + 10) L G H' → Q (.int r) H'
section
variable {P : Program} {w : World} {K : PySem.W.Frag} {mg : Str → Option Value} {base : Heap} {Tb : List (Addr × Str)}
theorem ok_law_long {f : Addr} {fd : FuncData} (F : FnP K "_law_long" s_law_long f fd) (T : Tx K mg) (G_law_draw : Fn P w K mg base "_law_draw" 1 ["source", "many"] (sp_law_draw Tb K)) : FnOk P w K mg base CX0 2 f fd ["source"] (sp_law_long Tb K) := by
  refine F.ok sc_law_long (fun vs H Q E h => ?_) (fun cdv A outer s H vs Q E hr h => ?_)
  · obtain ⟨_, _, _, _, rfl, _⟩ := h
    rfl
  · obtain ⟨p, n, L, G, rfl, hs, hn, k⟩ := h
    refine ⟨_, PSs.nox (pss_cons (ps_set (i := 1) sc_law_long.nd rfl (Or.inl rfl) pe_int)
      (pss_cons (ps_for PassesOwn.never rfl (pi_range1 (by rfl) T.n_range (pa_cons pe_int pa_nil)) (pg_name (i := 2) sc_law_long.nd rfl (Or.inl rfl)) (pss_one (ps_set (i := 1) sc_law_long.nd rfl (Or.inl rfl) (pe_op op_add (pe_op op_mul (pv 1) (pe_op op_pow pe_int pe_int)) (pe_fn G_law_draw (hr.mono (by decide)) (pa_cons (pv 0) (pa_cons (pe_op op_pow pe_int pe_int) pa_nil)))))))
      (pss_one (ps_ret (pe_ix (ixL (K := K) rfl) (pe_lst (pa_cons pe_int (pa_cons (pe_op op_add pe_int (pe_fn G_law_draw (hr.mono (by decide)) (pa_cons (pv 0) (pa_cons pe_int pa_nil)))) (pa_cons (pe_callB (call_max2 rfl) (by rfl) T.n_max (by decide +kernel) (pa_cons pe_int (pa_cons (pv 1) pa_nil))) (pa_cons (pe_op op_sub (pe_op op_sub (pe_op op_pow pe_int pe_int) pe_int) (pe_fn G_law_draw (hr.mono (by decide)) (pa_cons (pv 0) (pa_cons pe_int pa_nil)))) pa_nil))))) (pe_fn G_law_draw (hr.mono (by decide)) (pa_cons (pv 0) (pa_cons pe_int pa_nil))) (fun _ _ => rfl)))))), ?_⟩
    have e15 : (10 : Int) ^ (Int.toNat 15) = 10 ^ 15 := rfl
    refine ⟨_, rfl, by decide, by decide, for_range (lo := 0) (n := 4) (fun i σ H' => ∃ (d : Int) (s2 : Option V), σ = [some (.ref p), some (.int d), s2] ∧ 0 ≤ d ∧ d < (10 ^ 15) ^ i ∧ Hs Tb p (n + i) L G H') ⟨0, none, rfl, by decide, by decide, hs⟩ ?_ ?_⟩
    · rintro i σ H1 hi ⟨d, s2, rfl, d0, d1, h1⟩
      refine ⟨_, rfl, _, _, rfl, rfl, ⟨by decide, by decide, by decide⟩, _, _, rfl, rfl, .inr ⟨by decide, by decide⟩, _, rfl, _, _, rfl, rfl, ⟨by decide, by decide, by decide⟩, p, _, L, G, _, rfl, h1, by omega, by decide, by decide, fun r H' r0 r1 h => ?_⟩
      refine ⟨_, _, rfl, rfl, _, _, rfl, ?_, ?_, h⟩
      · rw [e15]
        omega
      · rw [e15] at r1 ⊢
        rw [Int.pow_succ ((10 : Int) ^ 15) i]
        generalize ((10 : Int) ^ 15) ^ i = X at d1 ⊢
        omega
    · rintro σ H1 ⟨d, s2, rfl, d0, d1, h1⟩
      refine ⟨_, rfl, p, _, L, G, 99, rfl, h1, by omega, by decide, by decide, fun r1 H2 r10 r11 h2 => ⟨_, _, rfl, rfl, _, rfl, _, _, rfl, _, _, rfl, rfl, ⟨by decide, by decide, by decide⟩, _, _, rfl, rfl, _, rfl, p, _, L, G, 9, rfl, h2, by omega, by decide, by decide, fun r2 H3 r20 r21 h3 => ⟨_, _, rfl, rfl, by show 4 ≤ sizeLine; decide, fun l hl => ?_⟩⟩⟩
      refine ⟨_, rfl, p, _, _, G, 4, rfl, h3.new hl .lst, by omega, by decide, by decide, fun r3 H4 r30 r31 h4 => ?_⟩
      have e60 : (10 : Int) ^ (Int.toNat 60) = 10 ^ 60 := rfl
      have e154 : ((10 : Int) ^ 15) ^ 4 = 10 ^ 60 := by decide
      rw [e154] at d1
      obtain ⟨z, ez, z0, z1⟩ := pick_int (P := fun i => 1 ≤ i ∧ i < 10 ^ 60) [1, 1 + r1, (if d > 1 then d else 1), (10 ^ (Int.toNat 60) - 1) - r2] rfl r30 r31 (by
        rw [e60]
        intro i hi
        rcases List.mem_cons.mp hi with rfl | hi
        · exact ⟨by decide, by decide⟩
        · rcases List.mem_cons.mp hi with rfl | hi
          · omega
          · rcases List.mem_cons.mp hi with rfl | hi
            · split <;> omega
            · rw [List.mem_singleton.mp hi]
              omega)
      exact ⟨l, _, r3, .int z, rfl, rfl, SqL.of (h4.get (i := 0) rfl), ez, k z H4 z0 z1 (h4.drop1.mono (by omega))⟩
end
end Sk
namespace Sk
open PySem PySem.Spec PyProof.Rows L2
abbrev s_law_raised_weights : Stmt := topS 29
abbrev N_law_raised_weights : List Str := ["source", "entries", "heaviest_one", "factors", "factor", "name", "weight", "parts"]
theorem sc_law_raised_weights : FnScope N_law_raised_weights ["source", "entries"] (defScope s_law_raised_weights) := ⟨rfl, rfl, rfl, by decide +kernel, rfl, by decide +kernel, by decide +kernel⟩
/-- the weights times f -/
def raiseE (f : Int) (e : Ent) : Ent := ⟨e.name, e.w * f, e.parts⟩
def sp_law_raised_weights (Tb : List (Addr × Str)) (K : PySem.W.Frag) : Sp := fun vs H Q _ => ∃ (p a : Addr) (n : Nat) (L : List (Addr × HO)) (G : Hp) (xs : List V) (es : List Ent), vs = [.ref p, .ref a] ∧ Hs Tb p n ((a, .lst xs) :: L) G H ∧ n + 100 < 1000000000 ∧ CatAt G xs es ∧ Made es ∧ (∀ x ∈ L, ∀ zs, x.2 ≠ .tup zs) ∧
  ∀ r H' G' ys f, Same G G' → 1 ≤ f → (∀ e ∈ es, e.w * f < 10 ^ 60) → CatAt G' ys (es.map (raiseE f)) → Hs Tb p (n + 100) ((r, .lst ys) :: L) G' H' → Q (.ref r) H'
def RaiseR (G H : Hp) (f : Int) (x y : V) : Prop := ∃ (t0 : Addr) (n : Str) (w : Int) (l t : Addr), x = .ref t0 ∧ G t0 = some (.tup [.str n, .int w, .ref l]) ∧ y = .ref t ∧ H t = some (.tup [.str n, .int (w * f), .ref l])
theorem raise_cat {G H : Hp} {f : Int} (z : Fz G H) : ∀ {xs ys : List V} {es : List Ent}, CatAt G xs es → Paired (RaiseR G H f) xs ys → CatAt (fzT G H) ys (es.map (raiseE f))
  | _, _, _, .nil, .nil => .nil
  | _, _, _, .cons ⟨t1, l1, e1, h1, h2⟩ c, .cons ⟨t0, n, w, l, t, e0, a1, e2, a2⟩ p => by
    rw [e1] at e0
    cases e0
    rw [h1] at a1
    simp only [Option.some.injEq, HO.tup.injEq, List.cons.injEq, V.str.injEq, V.int.injEq, V.ref.injEq, and_true] at a1
    obtain ⟨z1, z2, z3⟩ := a1
    subst z3
    refine .cons ⟨t, l1, e2, ?_, fzT_old h2⟩ (raise_cat z c p)
    rw [fzT_tup z a2]
    unfold raiseE
    rw [z1, z2]
section
variable {P : Program} {w : World} {K : PySem.W.Frag} {mg : Str → Option Value} {base : Heap} {Tb : List (Addr × Str)}
theorem ok_law_raised_weights {f : Addr} {fd : FuncData} (F : FnP K "_law_raised_weights" s_law_raised_weights f fd) (T : Tx K mg) (G_law_draw : Fn P w K mg base "_law_draw" 1 ["source", "many"] (sp_law_draw Tb K)) (G_law_long : Fn P w K mg base "_law_long" 2 ["source"] (sp_law_long Tb K)) : FnOk P w K mg base CX0 3 f fd ["source", "entries"] (sp_law_raised_weights Tb K) := by
  refine F.ok sc_law_raised_weights (fun vs H Q E h => ?_) (fun cdv A outer s H vs Q E hr h => ?_)
  · obtain ⟨_, _, _, _, _, _, _, rfl, _⟩ := h
    rfl
  · obtain ⟨p, a, n, L, G, xs, es, rfl, hs, hn, hc, hm, hLt, k⟩ := h
    refine ⟨_, PSs.nox (pss_cons (ps_set (i := 2) sc_law_raised_weights.nd rfl (Or.inl rfl) (pe_callB (crMax (K := K) rfl rfl) (by rfl) T.n_max (by decide +kernel) (pa_cons (pe_lc (own := [("name", 5), ("weight", 6), ("parts", 7)]) (g := (gTup K 3 (gCons (gName 5) (gCons (gName 6) (gCons (gName 7) gNil))))) (tt := tYes) rfl sc_law_raised_weights.nd (piL (K := K) rfl (pv 1)) (blkOk_by (N := N_law_raised_weights) (sc := (defScope s_law_raised_weights)) (by decide +kernel)) (fun _ _ _ _ _ => (pg_tup rfl (pgs_cons (pg_name (i := 5) sc_law_raised_weights.nd rfl (Or.inl rfl)) (pgs_cons (pg_name (i := 6) sc_law_raised_weights.nd rfl (Or.inl rfl)) (pgs_cons (pg_name (i := 7) sc_law_raised_weights.nd rfl (Or.inl rfl)) pgs_nil))))) (fun _ _ _ _ _ => pts_nil) (fun _ _ _ _ _ => (pv 6))) pa_nil)))
      (pss_cons (ps_set (i := 3) sc_law_raised_weights.nd rfl (Or.inl rfl) (pe_lst (pa_cons pe_int (pa_cons (pe_op op_add pe_int (pe_op op_mod (pe_fn G_law_long (hr.mono (by decide)) (pa_cons (pv 0) pa_nil)) (pe_op op_pow pe_int pe_int))) (pa_cons (pe_op op_fdivW (pe_op op_sub (pe_op op_pow pe_int pe_int) pe_int) (pv 2)) pa_nil)))))
      (pss_cons (ps_set (i := 4) sc_law_raised_weights.nd rfl (Or.inr rfl) (pe_ix (ixL (K := K) rfl) (pv 3) (pe_fn G_law_draw (hr.mono (by decide)) (pa_cons (pv 0) (pa_cons pe_int pa_nil))) (fun _ _ => rfl)))
      (pss_one (ps_ret (pe_lc (own := [("name", 5), ("weight", 6), ("parts", 7)]) (g := (gTup K 3 (gCons (gName 5) (gCons (gName 6) (gCons (gName 7) gNil))))) (tt := tYes) rfl sc_law_raised_weights.nd (piL (K := K) rfl (pv 1)) (blkOk_by (N := N_law_raised_weights) (sc := (defScope s_law_raised_weights)) (by decide +kernel)) (fun _ _ _ _ _ => (pg_tup rfl (pgs_cons (pg_name (i := 5) sc_law_raised_weights.nd rfl (Or.inl rfl)) (pgs_cons (pg_name (i := 6) sc_law_raised_weights.nd rfl (Or.inl rfl)) (pgs_cons (pg_name (i := 7) sc_law_raised_weights.nd rfl (Or.inl rfl)) pgs_nil))))) (fun _ _ _ _ _ => pts_nil) (fun _ _ _ _ _ => (pe_tup (pa_cons (pv 5) (pa_cons (pe_op op_mulW (pv 6) (pv 4)) (pa_cons (pv 7) pa_nil))))))))))), ?_⟩
    have hxl := Paired.len hc
    have ha : SqL K H a xs := SqL.of (hs.get (i := 0) rfl)
    have hfew := hm.few
    have hcH : CatAt H xs es := CatAt.mono hs.fz.sub hc
    refine ⟨_, rfl, a, rfl, ⟨_, ha⟩, fun D hD => lc_fm (Tb := Tb) (xs := xs) walk_list rfl (itemAt H 1) hD (by omega) (fun H' g => g.ext_seq ha) (fun j v H' hv g Rk Rs hk hks => ?_) fun H1 g1 hD1 => ?_⟩
    · obtain ⟨e, he, t, lp, rfl, ht, hlp⟩ := Paired.at hcH hv
      exact gtup3 (g.at ht .tup) ⟨rfl, _, rfl, hk _ _ (by rw [itemAt_tup ht]; rfl) (Gr.refl _)⟩
    have e1 : xs.filterMap (itemAt H 1) = (es.map (·.w)).map V.int := by
      rw [List.map_map]
      exact fm_paired (fun v e ⟨t, lp, h0, h1, h2⟩ => by rw [h0, itemAt_tup h1]; rfl) hcH
    rw [e1] at hD1
    have hs1 := hs.gr g1
    refine ⟨D, es.map (·.w), rfl, SqL.of hD1, ?_, fun m hmm hmax => ?_⟩
    · rw [List.length_map]
      exact List.length_pos_iff.mpr hm.v.ne
    obtain ⟨e0, he0, rfl⟩ := List.mem_map.mp hmm
    have m1 := hm.v.pos e0 he0
    have m2 := hm.wt e0 he0
    generalize e0.w = m at m1 m2 hmax hmm
    -- factors
    have e45 : (10 : Int) ^ (Int.toNat 45) = 10 ^ 45 := rfl
    have e60 : (10 : Int) ^ (Int.toNat 60) = 10 ^ 60 := rfl
    refine ⟨_, rfl, p, n, _, G, rfl, hs1, by omega, fun r H2 r0 r1 h2 => ?_⟩
    refine ⟨_, _, rfl, rfl, ⟨by decide, by decide, by decide⟩, _, _, rfl, rfl, by show (0 : Int) < _; rw [e45]; decide, _, _, rfl, rfl, _, _, rfl, rfl, ⟨by decide, by decide, by decide⟩, _, _, rfl, rfl, _, rfl, _, _, rfl, rfl, wide_div (b := 64) (by omega) (by omega) (by decide) (by decide), by show 3 ≤ sizeLine; decide, fun l hl => ?_⟩
    have h3 := h2.new hl (.lst (xs := [.int 1, .int (1 + r % 10 ^ (Int.toNat 45)), .int ((10 ^ (Int.toNat 60) - 1) / m)]))
    refine ⟨_, rfl, _, rfl, p, _, _, G, 3, rfl, h3, by omega, by decide, by decide, fun d H3 d0 d1 h4 => ?_⟩
    obtain ⟨f, ef, f1, f2⟩ := pick_int (P := fun f => 1 ≤ f ∧ f * m < 10 ^ 60) [1, 1 + r % 10 ^ (Int.toNat 45), (10 ^ (Int.toNat 60) - 1) / m] rfl d0 d1 (by
      rw [e45, e60]
      intro i hi
      rcases List.mem_cons.mp hi with rfl | hi
      · exact ⟨by decide, by omega⟩
      · rcases List.mem_cons.mp hi with rfl | hi
        · have b1 := Int.emod_nonneg r (show (10 : Int) ^ 45 ≠ 0 by decide)
          have b2 := Int.emod_lt_of_pos r (show (0 : Int) < 10 ^ 45 by decide)
          refine ⟨by omega, ?_⟩
          have b3 : (1 + r % 10 ^ 45) * m ≤ 10 ^ 45 * 10 ^ 13 := Int.mul_le_mul (by omega) (by omega) (by omega) (by decide)
          have b4 : (10 : Int) ^ 45 * 10 ^ 13 < 10 ^ 60 := by decide
          omega
        · rw [List.mem_singleton.mp hi]
          have b1 := Int.ediv_mul_le ((10 : Int) ^ 60 - 1) (show m ≠ 0 by omega)
          refine ⟨(Int.le_ediv_iff_mul_le (by omega)).mpr (by omega), by omega⟩)
    refine ⟨l, _, d, .int f, rfl, rfl, SqL.of (h4.get (i := 0) rfl), ef, ?_⟩
    have h5 := h4.drop1
    have hcH3 : CatAt H3 xs es := CatAt.mono h5.fz.sub hc
    have f3 : f < 10 ^ 60 := by
      have : f * 1 ≤ f * m := Int.mul_le_mul_of_nonneg_left m1 (by omega)
      omega
    have fw : ∀ e ∈ es, e.w * f < 10 ^ 60 := fun e he => by
      have h1 := hmax e.w (List.mem_map.mpr ⟨e, he, rfl⟩)
      have h2 : e.w * f ≤ m * f := Int.mul_le_mul_of_nonneg_right h1 (by omega)
      rw [Int.mul_comm m f] at h2
      omega
    have ha3 : SqL K H3 a xs := SqL.of (h5.get (i := 0) rfl)
    refine ⟨_, rfl, a, rfl, ⟨_, ha3⟩, fun D2 hD2 => lc_rel (Tb := Tb) (xs := xs) walk_list rfl (fun _ => true) (fun H' x y => RaiseR G H' f x y) (fun H1 H2 x y m ⟨t0, n, w, l, t, b1, b2, b3, b4⟩ => ⟨t0, n, w, l, t, b1, b2, b3, m _ _ .tup (.inl fun _ z => by cases z) b4⟩) hD2 (by omega) (fun H' g => g.ext_seq ha3) (fun j v H' hv g hd0 Rk Rs hk hks => ?_) fun H4 ys g4 hD4 pr => ?_⟩
    · obtain ⟨e, he, t, lp, rfl, ht, hlp⟩ := Paired.at hc hv
      have hem := List.mem_of_getElem? he
      have w0 := hm.v.pos e hem
      have w1 := hm.wt e hem
      refine gtup3 (g.at (h5.fzat ht) .tup) ⟨rfl, _, rfl, _, rfl, _, rfl, _, _, rfl, rfl, wide_mul (a := 64) (b := 200) (by omega) ?_ (by decide) (by decide) (by decide), _, rfl, by show 3 ≤ sizeLine; decide, fun t2 ht2 => hk _ _ rfl (Gr.new ht2) ⟨t, e.name, e.w, lp, t2, rfl, ht, rfl, upd_same⟩⟩
      have : f.natAbs < 10 ^ 60 := by omega
      exact Nat.lt_trans this (by decide)
    · rw [List.filter_eq_self.mpr fun _ _ => rfl] at pr
      have h6 := h5.grow g4 (.of hD2) hD4 .lst
      have h7 := h6.fzTup (fun x hx zs => by
        rcases List.mem_cons.mp hx with rfl | hx
        · exact fun z => by cases z
        · rcases List.mem_cons.mp hx with rfl | hx
          · exact fun z => by cases z
          · exact hLt x hx zs)
      exact k D2 H4 (fzT G H4) ys f (fun _ _ e => fzT_old e) f1 fw (raise_cat h6.fz hc pr) (h7.drop2.mono (by omega))
end
end Sk
namespace Sk
open PySem PySem.Spec PyProof.Rows L2
abbrev s_law_entries_text : Stmt := topS 30
abbrev N_law_entries_text : List Str := ["entries", "name", "weight", "parts"]
theorem sc_law_entries_text : FnScope N_law_entries_text ["entries"] (defScope s_law_entries_text) := ⟨rfl, rfl, rfl, by decide +kernel, rfl, by decide +kernel, by decide +kernel⟩
def sp_law_entries_text (Tb : List (Addr × Str)) (K : PySem.W.Frag) : Sp := fun vs H Q _ => ∃ (a : Addr) (xs : List V) (es : List Ent), vs = [.ref a] ∧ SqL K H a xs ∧ CatAt H xs es ∧ (∀ e ∈ es, TxE e) ∧ es.length ≤ 100 ∧ ∀ H', Gr Tb H H' → Q (.str (catT es)) H'
section
variable {P : Program} {w : World} {K : PySem.W.Frag} {mg : Str → Option Value} {base : Heap} {Tb : List (Addr × Str)}
theorem ok_law_entries_text {f : Addr} {fd : FuncData} (F : FnP K "_law_entries_text" s_law_entries_text f fd) (T : Tx K mg) : FnOk P w K mg base CX0 1 f fd ["entries"] (sp_law_entries_text Tb K) := by
  refine F.ok sc_law_entries_text (fun vs H Q E h => ?_) (fun cdv A outer s H vs Q E hr h => ?_)
  · obtain ⟨_, _, _, rfl, _⟩ := h
    rfl
  · obtain ⟨a, xs, es, rfl, ha, hc, ht, hz, k⟩ := h
    refine ⟨_, PSs.nox (pss_one (ps_ret (peJoin (K := K) rfl pe_str (pe_lc (own := [("name", 1), ("weight", 2), ("parts", 3)]) (g := (gTup K 3 (gCons (gName 1) (gCons (gName 2) (gCons (gName 3) gNil))))) (tt := tYes) rfl sc_law_entries_text.nd (piL (K := K) rfl (pv 0)) (blkOk_by (N := N_law_entries_text) (sc := (defScope s_law_entries_text)) (by decide +kernel)) (fun _ _ _ _ _ => (pg_tup rfl (pgs_cons (pg_name (i := 1) sc_law_entries_text.nd rfl (Or.inl rfl)) (pgs_cons (pg_name (i := 2) sc_law_entries_text.nd rfl (Or.inl rfl)) (pgs_cons (pg_name (i := 3) sc_law_entries_text.nd rfl (Or.inl rfl)) pgs_nil))))) (fun _ _ _ _ _ => pts_nil) (fun _ _ _ _ _ => (peJoin (K := K) rfl pe_str (pe_op op_cat (pe_lst (pa_cons (pv 1) (pa_cons (pe_callTy call_str_int (by rfl) T.n_str (by decide +kernel) (pa_cons (pv 2) pa_nil)) pa_nil))) (pv 3)))))))), ?_⟩
    have hl := Paired.len hc
    refine ⟨⟨_, rfl⟩, _, rfl, a, rfl, ⟨_, ha⟩, fun D hD => lc_rel (Tb := Tb) (xs := xs) walk_list rfl (fun _ => true) (fun _ x y => ∃ e ∈ es, EntAt H x e ∧ y = V.str (entT e)) (fun _ _ _ _ _ h => h) hD (by omega) (fun H' g => g.ext_seq ha) (fun j v H' hv g hd0 Rk Rs hk hks => ?_) fun H' ys g hD' pr => ?_⟩
    · obtain ⟨e, he, hev⟩ := Paired.at hc hv
      have hem := List.mem_of_getElem? he
      have t := ht e hem
      have hev2 := hev
      obtain ⟨tt, lp, rfl, ht1, hlp⟩ := hev
      have hf := t.few
      refine gtup3 (g.at ht1 .tup) ⟨rfl, ⟨_, rfl⟩, _, rfl, _, rfl, _, rfl, logC t.w0 t.w1, by show 2 ≤ sizeLine; decide, fun l1 hl1 => ⟨_, rfl, l1, lp, _, _, rfl, rfl, upd_same, (Gr.new (T := Tb) hl1).at (g.at hlp .lst) .lst, by rw [List.length_map, sizeLine_eq]; show 2 + e.parts.length ≤ 16777216; omega, fun l2 hl2 => ?_⟩⟩
      have hw := entW_size t
      have e1 : (Str.ofString " ").length = 1 := by decide
      exact ⟨_, l2, entW e, rfl, rfl, .inl (SqL.of upd_same), by rw [e1]; omega, hk _ _ rfl ((Gr.new hl1).trans (Gr.new hl2)) ⟨e, hem, hev2, rfl⟩⟩
    · rw [List.filter_eq_self.mpr fun _ _ => rfl] at pr
      have e2 := ents_text hc pr
      subst e2
      have hs := catT_size ht hz
      have e1 : (Str.ofString ", ").length = 2 := by decide
      exact ⟨_, D, es.map entT, rfl, rfl, .inl (SqL.of hD'), by rw [e1]; omega, k H' g⟩
end
end Sk
namespace Sk
open PySem PySem.Spec PyProof.Rows L2
abbrev s_law : Stmt := topS 31
abbrev N_law : List Str := ["script", "source", "k", "entries", "saved", "written", "found", "name", "weight", "parts"]
theorem sc_law : FnScope N_law ["script"] (defScope s_law) := ⟨rfl, rfl, rfl, by decide +kernel, rfl, by decide +kernel, by decide +kernel⟩
def sp_law (Tb : List (Addr × Str)) (K : PySem.W.Frag) : Sp := fun vs H Q _ => ∃ (a : Addr) (ns : List Int), vs = [.ref a] ∧ SqL K H a (ns.map V.int) ∧ ns.length ≤ 63 ∧ LamX.Tabs Tb H ∧ ∀ H', Q (.bl true) H'
theorem nameT {x : Str} (h : nameB x = true) : nameB' x := ⟨name_len h, name_signs h⟩
theorem raise_names (f : Int) (es : List Ent) : (es.map (raiseE f)).map (·.name) = es.map (·.name) := by
  rw [List.map_map]
  rfl
theorem raise_tx {es : List Ent} {f : Int} (m : Made es) (f1 : 1 ≤ f) (fw : ∀ e ∈ es, e.w * f < 10 ^ 60) : ∀ e ∈ es.map (raiseE f), TxE e := fun e he => by
  obtain ⟨e0, h0, rfl⟩ := List.mem_map.mp he
  refine ⟨nameT (m.v.names e0 h0), ?_, fw e0 h0, m.fewp e0 h0, fun p hp => nameT (m.v.part h0 hp)⟩
  have := m.v.pos e0 h0
  exact Int.mul_pos (by omega) (by omega)
theorem raise_valid {es : List Ent} {f : Int} (m : Made es) (f1 : 1 ≤ f) (fw : ∀ e ∈ es, e.w * f < 10 ^ 60) : Valid (es.map (raiseE f)) := by
  have v := m.v
  refine ⟨fun z => v.ne (List.map_eq_nil_iff.mp z), fun e he => ?_, by rw [raise_names]; exact v.nodup, fun e he => ?_, fun e he p hp => ?_, by rw [List.length_map]; exact v.few, fun e he => ?_⟩
  · obtain ⟨e0, h0, rfl⟩ := List.mem_map.mp he
    exact v.names e0 h0
  · have := (raise_tx m f1 fw e he).w0
    omega
  · obtain ⟨e0, h0, rfl⟩ := List.mem_map.mp he
    obtain ⟨e1, h1, h2, h3⟩ := v.lighter e0 h0 p hp
    exact ⟨raiseE f e1, List.mem_map.mpr ⟨e1, h1, rfl⟩, h2, Int.mul_lt_mul_of_pos_right h3 (by omega)⟩
  · obtain ⟨e0, h0, rfl⟩ := List.mem_map.mp he
    exact v.fewp e0 h0
theorem raise_shw {es : List Ent} {f : Int} (m : Made es) (f1 : 1 ≤ f) (fw : ∀ e ∈ es, e.w * f < 10 ^ 60) : ∀ e ∈ es.map (raiseE f), ShwE e := fun e he => by
  have t := raise_tx m f1 fw e he
  obtain ⟨e0, h0, rfl⟩ := List.mem_map.mp he
  have s := m.shw e0 h0
  refine ⟨s.name, ?_, Nat.le_trans (m.fewp e0 h0) (by decide), fun q hq => nameB_shw (m.v.part h0 hq)⟩
  have h1 := t.w0
  have h2 := t.w1
  have : (raiseE f e0).w.natAbs < 10 ^ 60 := by omega
  exact Nat.lt_trans this (by decide)
/-! ### the catalogue's text, read back -/
theorem word_free {e : Ent} (t : TxE e) {c : Nat} (hc : c < 48) : ∀ x ∈ entW e, c ∉ x.cps.toList := fun x hx z => by
  unfold entW at hx
  rcases List.mem_append.mp hx with hx | hx
  · rcases List.mem_cons.mp hx with rfl | hx
    · have := t.name.2 c z
      omega
    · rw [List.mem_singleton.mp hx] at z
      obtain ⟨n, hn⟩ := Int.eq_ofNat_of_zero_le (Int.le_of_lt t.w0)
      rw [hn, show (Str.ofString (toString ((n : Nat) : Int))).cps.toList = TL.numL n from TL.tl_num n] at z
      exact TL.numL_free (.inl hc) z
  · have := (t.parts x hx).2 c z
    omega
open TL in
theorem split_ent {e : Ent} (t : TxE e) : Txt.split (entT e) (Str.ofString " ") = entW e := split_join (s := 32) (S := []) (by decide +kernel) (by decide +kernel) (by simp) fun x hx => word_free t (by decide) x hx
theorem read_ent {e : Ent} (t : TxE e) : readE (entT e) = some e := by
  unfold readE
  rw [split_ent t]
  show (match posW (Str.ofString (toString e.w)) with | some w => some (⟨e.name, w, e.parts⟩ : Ent) | none => none) = some e
  rw [posW_num t.w0 t.w1]
theorem mem_joinL {c : Nat} {S : List Nat} : ∀ {ps : List (List Nat)}, c ∈ TL.joinL S ps → c ∈ S ∨ ∃ p ∈ ps, c ∈ p
  | [], h => by cases h
  | [p], h => .inr ⟨p, List.mem_singleton.mpr rfl, h⟩
  | p :: q :: r, h => by
    have h' : c ∈ p ++ (S ++ TL.joinL S (q :: r)) := h
    rcases List.mem_append.mp h' with h1 | h1
    · exact .inr ⟨p, List.mem_cons_self .., h1⟩
    · rcases List.mem_append.mp h1 with h2 | h2
      · exact .inl h2
      · rcases mem_joinL h2 with h3 | ⟨z, hz, h3⟩
        · exact .inl h3
        · exact .inr ⟨z, List.mem_cons_of_mem _ hz, h3⟩
open TL in
theorem ent_comma {e : Ent} (t : TxE e) : 44 ∉ tl (entT e) := fun z => by
  unfold entT at z
  rw [join_eq, tl_join] at z
  rcases mem_joinL z with h | ⟨p, hp, h⟩
  · revert h
    decide +kernel
  · obtain ⟨x, hx, rfl⟩ := List.mem_map.mp hp
    exact word_free t (c := 44) (by decide) x hx h
open TL in
theorem split_cat {es : List Ent} (ht : ∀ e ∈ es, TxE e) (hne : es ≠ []) : Txt.split (catT es) (Str.ofString ", ") = es.map entT := split_join (s := 44) (S := [32]) (by decide +kernel) (by decide +kernel) (fun z => hne (List.map_eq_nil_iff.mp z)) fun x hx => by
  obtain ⟨e, he, rfl⟩ := List.mem_map.mp hx
  exact ent_comma (ht e he)
theorem reads_cat {es : List Ent} (ht : ∀ e ∈ es, TxE e) (hne : es ≠ []) (hz : es.length ≤ 100) : (catT es).length ≤ 1000000 ∧ (Txt.split (catT es) (Str.ofString ", ")).map readE = es.map some ∧
    ∀ x ∈ Txt.split (catT es) (Str.ofString ", "), x.length ≤ 1000000 ∧ (Txt.split x (Str.ofString " ")).length ≤ 1000 ∧ ∀ w ∈ Txt.split x (Str.ofString " "), w.length ≤ 1000000 := by
  rw [split_cat ht hne]
  refine ⟨Nat.le_trans (join_size (m := 100000) ?_) (by decide), ?_, fun x hx => ?_⟩
  · have := catT_size ht hz
    have e1 : (Str.ofString ", ").length = 2 := by decide
    rw [e1]
    exact this
  · rw [List.map_map]
    exact List.map_congr_left fun e he => read_ent (ht e he)
  · obtain ⟨e, he, rfl⟩ := List.mem_map.mp hx
    rw [split_ent (ht e he)]
    obtain ⟨h1, h2⟩ := entW_len (ht e he)
    exact ⟨Nat.le_trans (entT_len (ht e he)) (by decide), by omega, fun w hw => Nat.le_trans (h2 w hw) (by decide)⟩
theorem cnt_cat {es : List Ent} (hp : ∀ e ∈ es, e.parts.length ≤ 6) (hz : es.length ≤ 100) : cnt (catD es) ≤ 16000000 := by
  unfold catD
  rw [cnt]
  have := cnt_le (ds := es.map entD) (m := 30) (fun d hd => by
    obtain ⟨e, he, rfl⟩ := List.mem_map.mp hd
    have h1 := cnt_strs e.parts
    have h2 := hp e he
    unfold entD
    simp only [cnt, cntAll] at h1 ⊢
    omega)
  rw [List.length_map] at this
  omega
section
variable {P : Program} {w : World} {K : PySem.W.Frag} {mg : Str → Option Value} {base : Heap} {Tb : List (Addr × Str)}
theorem ok_law {f : Addr} {fd : FuncData} (F : FnP K "law" s_law f fd) (T : Tx K mg) (G_law_draw : Fn P w K mg base "_law_draw" 1 ["source", "many"] (sp_law_draw Tb K)) (G_law_entries : Fn P w K mg base "_law_entries" 4 ["source", "most"] (sp_law_entries Tb K)) (G_law_entries_text : Fn P w K mg base "_law_entries_text" 1 ["entries"] (sp_law_entries_text Tb K)) (G_law_raised_weights : Fn P w K mg base "_law_raised_weights" 3 ["source", "entries"] (sp_law_raised_weights Tb K)) (G_law_same : Fn P w K mg base "_law_same" 5 ["found", "wanted"] (sp_law_same Tb K)) (G_law_source : Fn P w K mg base "_law_source" 1 ["script"] (sp_law_source Tb K)) (G_read_catalogue : Fn P w K mg base "read_catalogue" 4 ["text"] (sp_read_catalogue Tb K)) (GK_read_catalogue_text : FnK P w K mg base "read_catalogue" 4 ["text"] (sp_read_catalogue Tb K) 0 ["text"] (fun vs zs => [zs.getD 0 .non])) (G_show_catalogue : Fn P w K mg base "show_catalogue" 1 ["catalogue"] (sp_show_catalogue Tb K)) (GK_show_catalogue_catalogue : FnK P w K mg base "show_catalogue" 1 ["catalogue"] (sp_show_catalogue Tb K) 0 ["catalogue"] (fun vs zs => [zs.getD 0 .non])) : FnG P w K mg base 6 f fd ["script"] (sp_law Tb K) := by
  refine fnG_of F sc_law (fun vs H Q E h => ?_) (fun cdv A outer s H vs Q E hgd hr h => ?_)
  · obtain ⟨_, _, rfl, _⟩ := h
    rfl
  · obtain ⟨a, ns, rfl, ha, hz, ht, k⟩ := h
    refine ⟨_, PSs.nox (pss_cons (ps_set (i := 1) sc_law.nd rfl (Or.inl rfl) (pe_fn G_law_source (hr.mono (by decide)) (pa_cons (pv 0) pa_nil)))
      (pss_cons (ps_for PassesOwn.never rfl (pi_range1 (by rfl) T.n_range (pa_cons (pe_op op_add pe_int (pe_op op_mul pe_int (pe_callB (lenS (K := K) rfl) (by rfl) T.n_len (by decide +kernel) (pa_cons (pe_slice (slL (K := K) rfl) (pv 0) po_none (po_some pe_int)) pa_nil)))) pa_nil)) (pg_name (i := 2) sc_law.nd rfl (Or.inl rfl)) (pss_cons (ps_set (i := 3) sc_law.nd rfl (Or.inl rfl) (pe_fn G_law_raised_weights (hr.mono (by decide)) (pa_cons (pv 1) (pa_cons (pe_fn G_law_entries (hr.mono (by decide)) (pa_cons (pv 1) (pa_cons (pe_ix (ixL (K := K) rfl) (pe_lst (pa_cons pe_int (pa_cons pe_int (pa_cons pe_int pa_nil)))) (pe_fn G_law_draw (hr.mono (by decide)) (pa_cons (pv 1) (pa_cons pe_int pa_nil))) (fun _ _ => rfl)) pa_nil))) pa_nil))))
        (pss_cons (ps_set (i := 4) sc_law.nd rfl (Or.inl rfl) (pe_callB (crRepr (K := K) rfl hgd hr.units) (by rfl) T.n_repr (by decide +kernel) (pa_cons (pv 3) pa_nil)))
        (pss_cons (ps_set (i := 5) sc_law.nd rfl (Or.inl rfl) (pe_fn G_law_entries_text (hr.mono (by decide)) (pa_cons (pv 3) pa_nil)))
        (pss_cons (ps_if (pt_not (pt_val (pe_fn G_law_same (hr.mono (by decide)) (pa_cons (pe_lst (pa_cons (pe_fn G_show_catalogue (hr.mono (by decide)) (pa_cons (pv 3) pa_nil)) (pa_cons (pe_fnK0 GK_show_catalogue_catalogue (hr.mono (by decide)) (pk_cons (pv 3) pk_nil)) pa_nil))) (pa_cons (pe_lst (pa_cons (pv 5) (pa_cons (pv 5) pa_nil))) pa_nil))))) (pss_one (ps_ret pe_bl)) pss_nil)
        (pss_cons (ps_set (i := 6) sc_law.nd rfl (Or.inl rfl) (pe_fn G_read_catalogue (hr.mono (by decide)) (pa_cons (pv 5) pa_nil)))
        (pss_cons (ps_if (pt_not (pt_val (pe_fn G_law_same (hr.mono (by decide)) (pa_cons (pv 6) (pa_cons (pv 3) pa_nil))))) (pss_one (ps_ret pe_bl)) pss_nil)
        (pss_cons (ps_for PassesOwn.never rfl (piL (K := K) rfl (pv 6)) (pg_tup rfl (pgs_cons (pg_name (i := 7) sc_law.nd rfl (Or.inl rfl)) (pgs_cons (pg_name (i := 8) sc_law.nd rfl (Or.inl rfl)) (pgs_cons (pg_name (i := 9) sc_law.nd rfl (Or.inl rfl)) pgs_nil)))) (pss_one (ps_expr (peBm (K := K) rfl PySem.F.plainAttrs_list PySem.F.slot_list_append PySem.F.type_list_append mt_append (pv 9) (pa_cons pe_str pa_nil)))))
        (pss_cons (ps_expr (peBm0 (K := K) rfl PySem.F.plainAttrs_list PySem.F.slot_list_reverse PySem.F.type_list_reverse mt_reverse (pv 6)))
        (pss_one (ps_if (PW.pt (pw_or (pt_not (pt_val (pe_fn G_law_same (hr.mono (by decide)) (pa_cons (pe_fnK0 GK_read_catalogue_text (hr.mono (by decide)) (pk_cons (pv 5) pk_nil)) (pa_cons (pv 3) pa_nil))))) (pw_or1 (pt_cmpR op_ne (pe_callB (crRepr (K := K) rfl hgd hr.units) (by rfl) T.n_repr (by decide +kernel) (pa_cons (pv 3) pa_nil)) (pv 4) (nomark _))))) (pss_one (ps_ret pe_bl)) pss_nil)))))))))))
      (pss_one (ps_ret pe_bl)))), ?_⟩
    refine ⟨_, rfl, a, ns, fun _ => none, rfl, ha, hz, .emp, ht, fun p H1 hs g1 => ?_⟩
    refine ⟨_, rfl, _, rfl, a, _, rfl, g1.ext_seq ha, fun a2 ha2 => ?_⟩
    have hlen : ((cutV (ns.map V.int) none (some 12)).length : Int) ≤ 12 := by
      rw [cut_take (by decide), List.length_take]
      omega
    generalize cutV (ns.map V.int) none (some 12) = cv at hlen
    have h0 := (hs.new ha2 (.lst (xs := cv))).drop1
    refine ⟨a2, _, rfl, .inl (SqL.of upd_same), _, _, rfl, rfl, .inr ⟨by omega, by omega⟩, _, _, rfl, rfl, _, rfl, by omega, by omega, for_range (lo := 0) (n := (5 + 3 * (cv.length : Int)).toNat)
      (fun i σ H' => ∃ (G : Hp) (s2 s3 s4 s5 s6 s7 s8 s9 : Option V), σ = [some (.ref a), some (.ref p), s2, s3, s4, s5, s6, s7, s8, s9] ∧ Hs Tb p (3000 * i) [] G H')
      ⟨_, none, none, none, none, none, none, none, none, rfl, h0⟩ ?_ (fun σ H' _ => k H')⟩
    rintro i σ H2 hi ⟨G, s2, s3, s4, s5, s6, s7, s8, s9, rfl, hs2⟩
    have hi41 : i < 41 := by omega
    clear hs g1 ha hlen hi ht h0 ha2
    -- entries
    refine ⟨_, rfl, _, rfl, by show 3 ≤ sizeLine; decide, fun l hl => ?_⟩
    refine ⟨_, rfl, p, _, _, G, 3, rfl, hs2.new hl .lst, by omega, by decide, by decide, fun d0 H3 d00 d01 h3 => ?_⟩
    obtain ⟨most, em, m1, m2⟩ := pick_int (P := fun i => 1 ≤ i ∧ i ≤ 39) [3, 20, 30] rfl d00 d01 (by decide)
    refine ⟨l, _, d0, .int most, rfl, rfl, SqL.of (h3.get (i := 0) rfl), em, p, _, _, G, most, rfl, h3.drop1, by omega, m1, m2, fun r H4 G4 ys es gs hc hpn hm hle h4 => ?_⟩
    refine ⟨p, r, _, [], G4, ys, es, rfl, h4, by omega, hc, hm, by simp, fun r2 H5 G5 zs f s45 f1 fw hc5 h5 => ?_⟩
    have tx := raise_tx hm f1 fw
    have v2 := raise_valid hm f1 fw
    have sh2 := raise_shw hm f1 fw
    have hfew : (es.map (raiseE f)).length ≤ 40 := by rw [List.length_map]; exact hm.few
    have fp2 : ∀ e ∈ es.map (raiseE f), e.parts.length ≤ 6 := fun e he => (tx e he).few
    generalize es.map (raiseE f) = es2 at tx v2 sh2 hfew hc5 fp2
    have h6 := h5.freeze
    have c5 := h5.cfree
    have hG := upd_same (H := G5) (a := r2) (o := .lst zs)
    have hC : CatAt (upd G5 r2 (.lst zs)) zs es2 := hc5.mono (Same.upd c5)
    generalize upd G5 r2 (.lst zs) = G6 at h6 hG hC
    clear h5 h4 h3 hs2 em hc hpn hc5 s45 gs c5
    have dpC : ∀ {H : Hp}, Same G6 H → Dp K H (.ref r2) (catD es2) := fun s => dp_cat (SqL.of (s _ _ hG)) (hC.mono s)
    -- saved
    refine ⟨_, rfl, r2, catD es2, rfl, dpC h6.fz.sub, (show_cat sh2 (by omega)).1, (show_cat sh2 (by omega)).2, Nat.le_trans (depth_cat es2) (by decide), ?_⟩
    -- written
    refine ⟨_, rfl, r2, zs, es2, rfl, SqL.of (h6.fzat hG), hC.mono h6.fz.sub, tx, by omega, fun H7 g7 => ?_⟩
    have h7 := h6.gr g7
    obtain ⟨tl1, tl2, tl3⟩ := reads_cat tx v2.ne (by omega)
    generalize hT : catT es2 = T at tl1 tl2 tl3
    clear h6
    -- shown
    refine ⟨_, rfl, r2, zs, es2, rfl, SqL.of (h7.fzat hG), hC.mono h7.fz.sub, tx, by omega, fun H8 g8 => ?_⟩
    rw [hT]
    have h8 := h7.gr g8
    refine ⟨_, rfl, rfl, rfl, r2, zs, es2, rfl, SqL.of (h8.fzat hG), hC.mono h8.fz.sub, tx, by omega, fun H9 g9 => ?_⟩
    rw [hT]
    have h9 := h8.gr g9
    refine ⟨by show 2 ≤ sizeLine; decide, fun l5 hl5 => ?_⟩
    have h10 := h9.new hl5 (.lst (xs := [.str T, .str T]))
    refine ⟨_, rfl, _, rfl, by show 2 ≤ sizeLine; decide, fun l6 hl6 => ?_⟩
    have h11 := h10.new hl6 (.lst (xs := [.str T, .str T]))
    refine ⟨.ref l5, .ref l6, .list ([T, T].map PyData.str), rfl, dp_strs (h11.get (i := 1) rfl), dp_strs (h11.get (i := 0) rfl), Nat.lt_of_le_of_lt (depth_strs _) (by decide), Nat.le_trans (cnt_strs _) (by show 2 + 1 ≤ 16000000; decide), fun H12 g12 => ⟨true, rfl, iteF ?_⟩⟩
    have hB := (h11.gr g12).sub (L' := []) (List.nil_sublist _)
    clear h7 h8 h9 h10 h11
    have dcn : cnt (catD es2) ≤ 16000000 := cnt_cat fp2 (by omega)
    have dpt : (catD es2).depth < 5 := Nat.lt_of_le_of_lt (depth_cat _) (by decide)
    -- found
    refine ⟨_, rfl, T, es2, rfl, tl1, tl2, tl3, v2, by omega, fun fd H13 ys2 g13 n13 hfd pr => ?_⟩
    have h13 := hB.gr g13
    refine ⟨_, rfl, _, rfl, .ref fd, .ref r2, catD es2, rfl, dp_cat (SqL.of hfd) (NewE.cat pr), dpC h13.fz.sub, dpt, dcn, fun H14 g14 => ⟨true, rfl, iteF ?_⟩⟩
    have g134 := g13.trans g14
    have hfd4 := g14.at hfd .lst
    have pr4 := NewE.gr g14 pr
    clear h13
    -- changed
    refine ⟨_, rfl, fd, rfl, ⟨_, SqL.of hfd4⟩, for_list (K := K) (a := fd) (xs := ys2) (fun i' σ H' => ∃ (s7 s8 s9 : Option V), σ = [some (.ref a), some (.ref p), some (.int (0 + (i : Nat))), some (.ref r2), some (.str (catD es2).shown), some (.str T), some (.ref fd), s7, s8, s9] ∧ Gr Tb H12 H' ∧ H' fd = some (.lst ys2) ∧ ∀ y ∈ ys2, ∃ (t l : Addr) (n : Str) (w : Int) (qs : List V), y = .ref t ∧ Nw H12 l ∧ l ≠ fd ∧ H' t = some (.tup [.str n, .int w, .ref l]) ∧ H' l = some (.lst qs) ∧ qs.length ≤ 6 + i')
      ⟨_, _, _, rfl, g134, hfd4, fun y hy => ?_⟩ (fun i' σ H' _ ⟨_, _, _, _, _, h, _⟩ => SqL.of h) ?_ ?_⟩
    · obtain ⟨e, he, t, l, rfl, n1, n2, a1, a2⟩ := Paired.left pr4 hy
      refine ⟨t, l, e.name, e.w, _, rfl, n2, fun z => ?_, a1, a2, by rw [List.length_map]; exact fp2 e he⟩
      rw [z, hfd4] at a2
      simp only [Option.some.injEq, HO.lst.injEq] at a2
      rw [a2] at hy
      obtain ⟨x, _, e2⟩ := List.mem_map.mp hy
      cases e2
    · rintro i' x σ H' hx ⟨s7, s8, s9, rfl, gB, hf, inv⟩
      have hxm := List.mem_of_getElem? hx
      have hi' : i' < ys2.length := (List.getElem?_eq_some_iff.mp hx).1
      have hyl := Paired.len pr4
      obtain ⟨t, l, n, w, qs, rfl, nl, lf, a1, a2, a3⟩ := inv _ hxm
      refine gtup3 a1 ⟨_, rfl, .inl ⟨rfl, _, SqL.of a2⟩, l, qs, _, rfl, rfl, a2, by rw [sizeLine_eq]; omega, _, _, _, rfl, gB.mut nl a2 .lst, by rw [upd_ne lf.symm]; exact hf, fun y hy => ?_⟩
      obtain ⟨t', l', n', w', qs', rfl, nl', lf', b1, b2, b3⟩ := inv y hy
      by_cases q : l' = l
      · subst q
        rw [a2] at b2
        cases b2
        refine ⟨t', l', n', w', _, rfl, nl', lf', ?_, upd_same, by rw [List.length_append, List.length_singleton]; omega⟩
        rw [upd_ne fun z => by rw [z, a2] at b1; cases b1]
        exact b1
      · refine ⟨t', l', n', w', qs', rfl, nl', lf', ?_, ?_, by omega⟩
        · rw [upd_ne fun z => by rw [z, a2] at b1; cases b1]
          exact b1
        · rw [upd_ne q]
          exact b2
    rintro σ H15 ⟨s7, s8, s9, rfl, gB, hf, _⟩
    refine ⟨_, rfl, .inl ⟨rfl, _, SqL.of hf⟩, fd, ys2, rfl, rfl, hf, ?_⟩
    have gC := gB.mut (o := .lst ys2.reverse) n13 hf .lst
    have h16 := hB.gr gC
    -- again
    refine ⟨_, rfl, rfl, rfl, T, es2, rfl, tl1, tl2, tl3, v2, by omega, fun f2 H17 ys3 g17 n17 hf2 pr2 => ?_⟩
    have h17 := h16.gr g17
    refine ⟨_, rfl, .ref f2, .ref r2, catD es2, rfl, dp_cat (SqL.of hf2) (NewE.cat pr2), dpC h17.fz.sub, dpt, dcn, fun H18 g18 => ⟨true, rfl, iteF ?_⟩⟩
    have h18 := h17.gr g18
    refine ⟨_, rfl, r2, catD es2, rfl, dpC h18.fz.sub, (show_cat sh2 (by omega)).1, (show_cat sh2 (by omega)).2, Nat.le_trans (depth_cat es2) (by decide), _, rfl, rfl, _, rfl, ?_⟩
    rw [decide_eq_true rfl]
    refine iteF ?_
    exact ⟨G6, _, _, _, _, _, _, _, _, rfl, h18.mono (by omega)⟩
end
end Sk
set_option maxHeartbeats 0
namespace Sk
open PySem PySem.Spec PyProof.Rows L2
def dfD (i : Nat) (x : Str) : He.DefD := ⟨(x, none), x, x, defArgs (topS i), defBody (topS i), defScope (topS i), [], []⟩
def hfn : List He.DefD := [dfD 3 "show_catalogue", dfD 11 "is_name", dfD 12 "is_entry", dfD 13 "check_catalogue", dfD 17 "read_positive", dfD 18 "read_entry", dfD 19 "read_catalogue", dfD 21 "_law_source", dfD 22 "_law_draw", dfD 23 "_law_same", dfD 24 "_law_shuffled", dfD 25 "_law_names", dfD 26 "_law_entries", dfD 28 "_law_long", dfD 29 "_law_raised_weights", dfD 30 "_law_entries_text", dfD 31 "law"]
def hfa : List He.Fa := [.glo "show_catalogue", .glo "is_name", .glo "is_entry", .glo "check_catalogue", .glo "read_positive", .glo "read_entry", .glo "read_catalogue", .glo "_law_source", .glo "_law_draw", .glo "_law_same", .glo "_law_shuffled", .glo "_law_names", .glo "_law_entries", .glo "_law_long", .glo "_law_raised_weights", .glo "_law_entries_text", .glo "law", .free "ValueError", .free "abs", .free "all", .free "any", .free "bool", .free "dict", .free "enumerate", .free "int", .free "isinstance", .free "len", .free "list", .free "max", .free "min", .free "range", .free "repr", .free "reversed", .free "set", .free "sorted", .free "str", .free "sum", .free "tuple", .free "type", .free "zip", .str "COMMA" ", ", .str "DIGITS" "0123456789", .str "LETTERS" "abcdefghijklmnopqrstuvwxyz", .int "MOST_DIGITS" 60, .int "MOST_LETTERS" 8, .str "SPACE" " "]
def htf : List He.Defn := []
abbrev hR : PySem.W.OpenRow := PySem.W.OpenLaw.row PySem.Challenge.rw_splitstock_k41_catalogues_written
abbrev hHk : PySem.W.Hook := He.hookX 4 hfa hfn [] htf (fun _ => true)
def hOb (s : PySem.W.SharedT) : He.AlX := He.obsX 4 hfa hfn [] htf (fun _ => true) (HandSHeadRun.getT s)
theorem hOb_eq (s : PySem.W.SharedT) : hOb s = hHk.obs s.abs := He.obsX_eq (HandSHeadRun.getT_eq s)
def hLoose : List Str := ["SPACE", "COMMA", "show_catalogue", "StoreError", "InvalidCatalogue", "InvalidText", "LETTERS", "MOST_LETTERS", "is_name", "is_entry", "check_catalogue", "DIGITS", "MOST_DIGITS", "read_positive", "read_entry", "read_catalogue", "_law_source", "_law_draw", "_law_same", "_law_shuffled", "_law_names", "_law_entries", "_law_largest_first", "_law_long", "_law_raised_weights", "_law_entries_text"]
theorem hRun (w : World) : HandSHeadRun.RunEq hR (PySem.W.view hR.prog [31]) hHk hOb 2000 hLoose w := by
  intro os
  kernel_rfl
theorem hFacts {w : World} {K : PySem.W.Frag} {h : Heap} {mg : Str → Option Value} {fa : Addr} (X : K.In h) (G : h.Ns mainGlobals mg) (hfa0 : mg ("law" : Str) = some (.ref fa)) (c : He.SaysX hfa hfn [] htf (fun _ => true) w h K) : LawG PySem.Challenge.rw_splitstock_k41_catalogues_written w K 6 63 "script" mg fa h := by
  have d := c.t.d
  obtain ⟨fd_show_catalogue, F_show_catalogue⟩ := d.def_ 0 (d := dfD 3 "show_catalogue") rfl
  have g_show_catalogue := He.glo_ok X G (d.fact 0 (f := .glo "show_catalogue") rfl)
  obtain ⟨fd_is_name, F_is_name⟩ := d.def_ 1 (d := dfD 11 "is_name") rfl
  have g_is_name := He.glo_ok X G (d.fact 1 (f := .glo "is_name") rfl)
  obtain ⟨fd_is_entry, F_is_entry⟩ := d.def_ 2 (d := dfD 12 "is_entry") rfl
  have g_is_entry := He.glo_ok X G (d.fact 2 (f := .glo "is_entry") rfl)
  obtain ⟨fd_check_catalogue, F_check_catalogue⟩ := d.def_ 3 (d := dfD 13 "check_catalogue") rfl
  have g_check_catalogue := He.glo_ok X G (d.fact 3 (f := .glo "check_catalogue") rfl)
  obtain ⟨fd_read_positive, F_read_positive⟩ := d.def_ 4 (d := dfD 17 "read_positive") rfl
  have g_read_positive := He.glo_ok X G (d.fact 4 (f := .glo "read_positive") rfl)
  obtain ⟨fd_read_entry, F_read_entry⟩ := d.def_ 5 (d := dfD 18 "read_entry") rfl
  have g_read_entry := He.glo_ok X G (d.fact 5 (f := .glo "read_entry") rfl)
  obtain ⟨fd_read_catalogue, F_read_catalogue⟩ := d.def_ 6 (d := dfD 19 "read_catalogue") rfl
  have g_read_catalogue := He.glo_ok X G (d.fact 6 (f := .glo "read_catalogue") rfl)
  obtain ⟨fd_law_source, F_law_source⟩ := d.def_ 7 (d := dfD 21 "_law_source") rfl
  have g_law_source := He.glo_ok X G (d.fact 7 (f := .glo "_law_source") rfl)
  obtain ⟨fd_law_draw, F_law_draw⟩ := d.def_ 8 (d := dfD 22 "_law_draw") rfl
  have g_law_draw := He.glo_ok X G (d.fact 8 (f := .glo "_law_draw") rfl)
  obtain ⟨fd_law_same, F_law_same⟩ := d.def_ 9 (d := dfD 23 "_law_same") rfl
  have g_law_same := He.glo_ok X G (d.fact 9 (f := .glo "_law_same") rfl)
  obtain ⟨fd_law_shuffled, F_law_shuffled⟩ := d.def_ 10 (d := dfD 24 "_law_shuffled") rfl
  have g_law_shuffled := He.glo_ok X G (d.fact 10 (f := .glo "_law_shuffled") rfl)
  obtain ⟨fd_law_names, F_law_names⟩ := d.def_ 11 (d := dfD 25 "_law_names") rfl
  have g_law_names := He.glo_ok X G (d.fact 11 (f := .glo "_law_names") rfl)
  obtain ⟨fd_law_entries, F_law_entries⟩ := d.def_ 12 (d := dfD 26 "_law_entries") rfl
  have g_law_entries := He.glo_ok X G (d.fact 12 (f := .glo "_law_entries") rfl)
  obtain ⟨fd_law_long, F_law_long⟩ := d.def_ 13 (d := dfD 28 "_law_long") rfl
  have g_law_long := He.glo_ok X G (d.fact 13 (f := .glo "_law_long") rfl)
  obtain ⟨fd_law_raised_weights, F_law_raised_weights⟩ := d.def_ 14 (d := dfD 29 "_law_raised_weights") rfl
  have g_law_raised_weights := He.glo_ok X G (d.fact 14 (f := .glo "_law_raised_weights") rfl)
  obtain ⟨fd_law_entries_text, F_law_entries_text⟩ := d.def_ 15 (d := dfD 30 "_law_entries_text") rfl
  have g_law_entries_text := He.glo_ok X G (d.fact 15 (f := .glo "_law_entries_text") rfl)
  obtain ⟨fd_law, F_law⟩ := d.def_ 16 (d := dfD 31 "law") rfl
  have g_law := He.glo_ok X G (d.fact 16 (f := .glo "law") rfl)
  have e := hfa0.symm.trans g_law
  cases e
  have T : Tx K mg := { n_ValueError := He.free_ok X G (d.fact 17 (f := .free "ValueError") rfl), n_abs := He.free_ok X G (d.fact 18 (f := .free "abs") rfl), n_all := He.free_ok X G (d.fact 19 (f := .free "all") rfl), n_any := He.free_ok X G (d.fact 20 (f := .free "any") rfl), n_bool := He.free_ok X G (d.fact 21 (f := .free "bool") rfl), n_dict := He.free_ok X G (d.fact 22 (f := .free "dict") rfl), n_enumerate := He.free_ok X G (d.fact 23 (f := .free "enumerate") rfl), n_int := He.free_ok X G (d.fact 24 (f := .free "int") rfl), n_isinstance := He.free_ok X G (d.fact 25 (f := .free "isinstance") rfl), n_len := He.free_ok X G (d.fact 26 (f := .free "len") rfl), n_list := He.free_ok X G (d.fact 27 (f := .free "list") rfl), n_max := He.free_ok X G (d.fact 28 (f := .free "max") rfl), n_min := He.free_ok X G (d.fact 29 (f := .free "min") rfl), n_range := He.free_ok X G (d.fact 30 (f := .free "range") rfl), n_repr := He.free_ok X G (d.fact 31 (f := .free "repr") rfl), n_reversed := He.free_ok X G (d.fact 32 (f := .free "reversed") rfl), n_set := He.free_ok X G (d.fact 33 (f := .free "set") rfl), n_sorted := He.free_ok X G (d.fact 34 (f := .free "sorted") rfl), n_str := He.free_ok X G (d.fact 35 (f := .free "str") rfl), n_sum := He.free_ok X G (d.fact 36 (f := .free "sum") rfl), n_tuple := He.free_ok X G (d.fact 37 (f := .free "tuple") rfl), n_type := He.free_ok X G (d.fact 38 (f := .free "type") rfl), n_zip := He.free_ok X G (d.fact 39 (f := .free "zip") rfl), c_COMMA := He.str_ok X G (d.fact 40 (f := .str "COMMA" ", ") rfl), c_DIGITS := He.str_ok X G (d.fact 41 (f := .str "DIGITS" "0123456789") rfl), c_LETTERS := He.str_ok X G (d.fact 42 (f := .str "LETTERS" "abcdefghijklmnopqrstuvwxyz") rfl), c_MOST_DIGITS := He.int_ok X G (d.fact 43 (f := .int "MOST_DIGITS" 60) rfl), c_MOST_LETTERS := He.int_ok X G (d.fact 44 (f := .int "MOST_LETTERS" 8) rfl), c_SPACE := He.str_ok X G (d.fact 45 (f := .str "SPACE" " ") rfl) }
  let Tb : List (Addr × Str) := []
  refine ⟨fd_law, htf.map (He.cT K), sp_law Tb K, fun p hp => ?_, fun p hp => ?_, fun p hp => ?_, fun s v => FunD.bindsA (ps := ["script"]) F_law (fun _ _ _ _ _ _ us hl => match us, hl with | [_], _ => rfl) s [v] rfl, fun H a ns hn _ hH _ hS => ⟨a, ns, rfl, hS, hn, tabs_start fun p hp => ?_, fun _ => rfl⟩, fun base KB GB hTB => ?_⟩
  · obtain ⟨q, hq, rfl⟩ := List.mem_map.mp hp
    exact c.empty q hq
  · obtain ⟨q, hq, rfl⟩ := List.mem_map.mp hp
    exact c.out q hq
  · obtain ⟨q, hq, rfl⟩ := List.mem_map.mp hp
    exact PySem.W.codeHd_of_K X (c.hd q hq)
  · exact nomatch (show p ∈ ([] : List (Addr × Str)) from hp)
  · have O_show_catalogue : FnOk (PySem.Challenge.rw_splitstock_k41_catalogues_written).prog w K mg base CX0 1 (He.fAd K ("show_catalogue", none)) fd_show_catalogue ["catalogue"] (sp_show_catalogue Tb K) := ok_show_catalogue F_show_catalogue T
    have G_show_catalogue : Fn (PySem.Challenge.rw_splitstock_k41_catalogues_written).prog w K mg base "show_catalogue" 1 ["catalogue"] (sp_show_catalogue Tb K) := ⟨_, _, O_show_catalogue, g_show_catalogue, F_show_catalogue.kp, F_show_catalogue.bindsN (fun _ _ _ _ _ _ us hl => match us, hl with | [_], _ => rfl)⟩
    have GK_show_catalogue_catalogue : FnK (PySem.Challenge.rw_splitstock_k41_catalogues_written).prog w K mg base "show_catalogue" 1 ["catalogue"] (sp_show_catalogue Tb K) 0 ["catalogue"] (fun vs zs => [zs.getD 0 .non]) := ⟨_, _, (fun us ws => [ws.getD 0 .none]), O_show_catalogue, g_show_catalogue, F_show_catalogue.kp, kbn_of F_show_catalogue (fun _ _ _ _ _ _ us ws h1 h2 => match us, h1, ws, h2 with | [], _, [_], _ => rfl) (fun r1 r2 => .cons (Vals.getD r2 0) (.nil))⟩
    have O_is_name : FnOk (PySem.Challenge.rw_splitstock_k41_catalogues_written).prog w K mg base CX0 1 (He.fAd K ("is_name", none)) fd_is_name ["text"] (sp_is_name Tb K) := ok_is_name F_is_name T
    have G_is_name : Fn (PySem.Challenge.rw_splitstock_k41_catalogues_written).prog w K mg base "is_name" 1 ["text"] (sp_is_name Tb K) := ⟨_, _, O_is_name, g_is_name, F_is_name.kp, F_is_name.bindsN (fun _ _ _ _ _ _ us hl => match us, hl with | [_], _ => rfl)⟩
    have O_is_entry : FnOk (PySem.Challenge.rw_splitstock_k41_catalogues_written).prog w K mg base CX0 2 (He.fAd K ("is_entry", none)) fd_is_entry ["entry", "earlier_names", "weights"] (sp_is_entry Tb K) := ok_is_entry F_is_entry T G_is_name
    have G_is_entry : Fn (PySem.Challenge.rw_splitstock_k41_catalogues_written).prog w K mg base "is_entry" 2 ["entry", "earlier_names", "weights"] (sp_is_entry Tb K) := ⟨_, _, O_is_entry, g_is_entry, F_is_entry.kp, F_is_entry.bindsN (fun _ _ _ _ _ _ us hl => match us, hl with | [_, _, _], _ => rfl)⟩
    have O_check_catalogue : FnOk (PySem.Challenge.rw_splitstock_k41_catalogues_written).prog w K mg base CX0 3 (He.fAd K ("check_catalogue", none)) fd_check_catalogue ["catalogue"] (sp_check_catalogue Tb K) := ok_check_catalogue F_check_catalogue T G_is_entry
    have G_check_catalogue : Fn (PySem.Challenge.rw_splitstock_k41_catalogues_written).prog w K mg base "check_catalogue" 3 ["catalogue"] (sp_check_catalogue Tb K) := ⟨_, _, O_check_catalogue, g_check_catalogue, F_check_catalogue.kp, F_check_catalogue.bindsN (fun _ _ _ _ _ _ us hl => match us, hl with | [_], _ => rfl)⟩
    have O_read_positive : FnOk (PySem.Challenge.rw_splitstock_k41_catalogues_written).prog w K mg base CX0 1 (He.fAd K ("read_positive", none)) fd_read_positive ["word"] (sp_read_positive Tb K) := ok_read_positive F_read_positive T
    have G_read_positive : Fn (PySem.Challenge.rw_splitstock_k41_catalogues_written).prog w K mg base "read_positive" 1 ["word"] (sp_read_positive Tb K) := ⟨_, _, O_read_positive, g_read_positive, F_read_positive.kp, F_read_positive.bindsN (fun _ _ _ _ _ _ us hl => match us, hl with | [_], _ => rfl)⟩
    have O_read_entry : FnOk (PySem.Challenge.rw_splitstock_k41_catalogues_written).prog w K mg base CX0 2 (He.fAd K ("read_entry", none)) fd_read_entry ["text"] (sp_read_entry Tb K) := ok_read_entry F_read_entry T G_read_positive
    have G_read_entry : Fn (PySem.Challenge.rw_splitstock_k41_catalogues_written).prog w K mg base "read_entry" 2 ["text"] (sp_read_entry Tb K) := ⟨_, _, O_read_entry, g_read_entry, F_read_entry.kp, F_read_entry.bindsN (fun _ _ _ _ _ _ us hl => match us, hl with | [_], _ => rfl)⟩
    have O_read_catalogue : FnOk (PySem.Challenge.rw_splitstock_k41_catalogues_written).prog w K mg base CX0 4 (He.fAd K ("read_catalogue", none)) fd_read_catalogue ["text"] (sp_read_catalogue Tb K) := ok_read_catalogue F_read_catalogue T G_check_catalogue G_read_entry
    have G_read_catalogue : Fn (PySem.Challenge.rw_splitstock_k41_catalogues_written).prog w K mg base "read_catalogue" 4 ["text"] (sp_read_catalogue Tb K) := ⟨_, _, O_read_catalogue, g_read_catalogue, F_read_catalogue.kp, F_read_catalogue.bindsN (fun _ _ _ _ _ _ us hl => match us, hl with | [_], _ => rfl)⟩
    have GK_read_catalogue_text : FnK (PySem.Challenge.rw_splitstock_k41_catalogues_written).prog w K mg base "read_catalogue" 4 ["text"] (sp_read_catalogue Tb K) 0 ["text"] (fun vs zs => [zs.getD 0 .non]) := ⟨_, _, (fun us ws => [ws.getD 0 .none]), O_read_catalogue, g_read_catalogue, F_read_catalogue.kp, kbn_of F_read_catalogue (fun _ _ _ _ _ _ us ws h1 h2 => match us, h1, ws, h2 with | [], _, [_], _ => rfl) (fun r1 r2 => .cons (Vals.getD r2 0) (.nil))⟩
    have O_law_source : FnOk (PySem.Challenge.rw_splitstock_k41_catalogues_written).prog w K mg base CX0 1 (He.fAd K ("_law_source", none)) fd_law_source ["script"] (sp_law_source Tb K) := ok_law_source F_law_source T
    have G_law_source : Fn (PySem.Challenge.rw_splitstock_k41_catalogues_written).prog w K mg base "_law_source" 1 ["script"] (sp_law_source Tb K) := ⟨_, _, O_law_source, g_law_source, F_law_source.kp, F_law_source.bindsN (fun _ _ _ _ _ _ us hl => match us, hl with | [_], _ => rfl)⟩
    have O_law_draw : FnOk (PySem.Challenge.rw_splitstock_k41_catalogues_written).prog w K mg base CX0 1 (He.fAd K ("_law_draw", none)) fd_law_draw ["source", "many"] (sp_law_draw Tb K) := ok_law_draw F_law_draw T
    have G_law_draw : Fn (PySem.Challenge.rw_splitstock_k41_catalogues_written).prog w K mg base "_law_draw" 1 ["source", "many"] (sp_law_draw Tb K) := ⟨_, _, O_law_draw, g_law_draw, F_law_draw.kp, F_law_draw.bindsN (fun _ _ _ _ _ _ us hl => match us, hl with | [_, _], _ => rfl)⟩
    have O_law_same : FnOk (PySem.Challenge.rw_splitstock_k41_catalogues_written).prog w K mg base CX0 5 (He.fAd K ("_law_same", none)) fd_law_same ["found", "wanted"] (sp_law_same Tb K) := ok_same F_law_same T g_law_same F_law_same.kp (F_law_same.bindsN (fun _ _ _ _ _ _ us hl => match us, hl with | [_, _], _ => rfl)) 5
    have G_law_same : Fn (PySem.Challenge.rw_splitstock_k41_catalogues_written).prog w K mg base "_law_same" 5 ["found", "wanted"] (sp_law_same Tb K) := ⟨_, _, O_law_same, g_law_same, F_law_same.kp, F_law_same.bindsN (fun _ _ _ _ _ _ us hl => match us, hl with | [_, _], _ => rfl)⟩
    have O_law_shuffled : FnOk (PySem.Challenge.rw_splitstock_k41_catalogues_written).prog w K mg base CX0 2 (He.fAd K ("_law_shuffled", none)) fd_law_shuffled ["source", "items"] (sp_law_shuffled Tb K) := ok_law_shuffled F_law_shuffled T G_law_draw
    have G_law_shuffled : Fn (PySem.Challenge.rw_splitstock_k41_catalogues_written).prog w K mg base "_law_shuffled" 2 ["source", "items"] (sp_law_shuffled Tb K) := ⟨_, _, O_law_shuffled, g_law_shuffled, F_law_shuffled.kp, F_law_shuffled.bindsN (fun _ _ _ _ _ _ us hl => match us, hl with | [_, _], _ => rfl)⟩
    have O_law_names : FnOk (PySem.Challenge.rw_splitstock_k41_catalogues_written).prog w K mg base CX0 3 (He.fAd K ("_law_names", none)) fd_law_names ["source"] (sp_law_names Tb K) := ok_law_names F_law_names T G_law_shuffled
    have G_law_names : Fn (PySem.Challenge.rw_splitstock_k41_catalogues_written).prog w K mg base "_law_names" 3 ["source"] (sp_law_names Tb K) := ⟨_, _, O_law_names, g_law_names, F_law_names.kp, F_law_names.bindsN (fun _ _ _ _ _ _ us hl => match us, hl with | [_], _ => rfl)⟩
    have O_law_entries : FnOk (PySem.Challenge.rw_splitstock_k41_catalogues_written).prog w K mg base CX0 4 (He.fAd K ("_law_entries", none)) fd_law_entries ["source", "most"] (sp_law_entries Tb K) := ok_law_entries F_law_entries T G_law_draw G_law_names G_law_shuffled
    have G_law_entries : Fn (PySem.Challenge.rw_splitstock_k41_catalogues_written).prog w K mg base "_law_entries" 4 ["source", "most"] (sp_law_entries Tb K) := ⟨_, _, O_law_entries, g_law_entries, F_law_entries.kp, F_law_entries.bindsN (fun _ _ _ _ _ _ us hl => match us, hl with | [_, _], _ => rfl)⟩
    have O_law_long : FnOk (PySem.Challenge.rw_splitstock_k41_catalogues_written).prog w K mg base CX0 2 (He.fAd K ("_law_long", none)) fd_law_long ["source"] (sp_law_long Tb K) := ok_law_long F_law_long T G_law_draw
    have G_law_long : Fn (PySem.Challenge.rw_splitstock_k41_catalogues_written).prog w K mg base "_law_long" 2 ["source"] (sp_law_long Tb K) := ⟨_, _, O_law_long, g_law_long, F_law_long.kp, F_law_long.bindsN (fun _ _ _ _ _ _ us hl => match us, hl with | [_], _ => rfl)⟩
    have O_law_raised_weights : FnOk (PySem.Challenge.rw_splitstock_k41_catalogues_written).prog w K mg base CX0 3 (He.fAd K ("_law_raised_weights", none)) fd_law_raised_weights ["source", "entries"] (sp_law_raised_weights Tb K) := ok_law_raised_weights F_law_raised_weights T G_law_draw G_law_long
    have G_law_raised_weights : Fn (PySem.Challenge.rw_splitstock_k41_catalogues_written).prog w K mg base "_law_raised_weights" 3 ["source", "entries"] (sp_law_raised_weights Tb K) := ⟨_, _, O_law_raised_weights, g_law_raised_weights, F_law_raised_weights.kp, F_law_raised_weights.bindsN (fun _ _ _ _ _ _ us hl => match us, hl with | [_, _], _ => rfl)⟩
    have O_law_entries_text : FnOk (PySem.Challenge.rw_splitstock_k41_catalogues_written).prog w K mg base CX0 1 (He.fAd K ("_law_entries_text", none)) fd_law_entries_text ["entries"] (sp_law_entries_text Tb K) := ok_law_entries_text F_law_entries_text T
    have G_law_entries_text : Fn (PySem.Challenge.rw_splitstock_k41_catalogues_written).prog w K mg base "_law_entries_text" 1 ["entries"] (sp_law_entries_text Tb K) := ⟨_, _, O_law_entries_text, g_law_entries_text, F_law_entries_text.kp, F_law_entries_text.bindsN (fun _ _ _ _ _ _ us hl => match us, hl with | [_], _ => rfl)⟩
    exact ok_law F_law T G_law_draw G_law_entries G_law_entries_text G_law_raised_weights G_law_same G_law_source G_read_catalogue GK_read_catalogue_text G_show_catalogue GK_show_catalogue_catalogue
end Sk
open PySem PySem.W PySem.Calls PyProof.Rows
theorem PySem.Challenge.cw_splitstock_k41_catalogues_written_holds : PySem.Challenge.rw_splitstock_k41_catalogues_written.Holds := by
  w_on; o_law
  refine HandSHeadRun.head_any (r := OpenLaw.row PySem.Challenge.rw_splitstock_k41_catalogues_written) (q := view (OpenLaw.row PySem.Challenge.rw_splitstock_k41_catalogues_written).prog [31]) (H := Sk.hHk) (ob := Sk.hOb) (M := 2000) (loose := Sk.hLoose) (d := HandSHeadRun.topDef (OpenLaw.row PySem.Challenge.rw_splitstock_k41_catalogues_written).prog 31) (kwd := []) Sk.hOb_eq
    (by kernel_rfl) (fun s => by kernel_rfl) Sk.hRun (by kernel_rfl) (by kernel_rfl) (by kernel_rfl) (by rfl) (by first | assumption | decide +kernel) (by decide +kernel) ⟨rfl, rfl, rfl, rfl, rfl, by decide +kernel⟩ ?hw ?hc
  case hw => w_witness2
  case hc =>
    refine Sk.walk_ofG (l := PySem.Challenge.rw_splitstock_k41_catalogues_written) (n := 63) (k := 6) (x := "script") rfl (by decide) (by kernel_rfl) ⟨rfl, by decide, by decide⟩ ?_
    intro w mg fa h Y G hmg0
    obtain ⟨K, KX, c⟩ := Y
    have hmg : mg ("law" : PySem.Str) = some (.ref fa) := by
      have e : (HandSHeadRun.topDef (OpenLaw.row PySem.Challenge.rw_splitstock_k41_catalogues_written).prog 31).name = ("law" : PySem.Str) := by kernel_rfl
      rw [← e]
      exact hmg0
    exact ⟨K, KX, Sk.hFacts KX G hmg c⟩
