import PyProof.Rows.All
import Wide.All
import OpenK.AllK
import Wide.FinOn
import KE.KTupSum
import PyProof.TupleOfSeq
import HandS.ForMost
import HandS.Conv
import HandS.TupMul
import HandS.TupAny
import KE.KDictOf
import KE.KDictCopyH
import HandS.DictComp
import HandS.ForExc
import HandS.ExcField
import HandS.ExcIs
import HandS.HotCalls
import HandS.ExcInit
import HandS.Nested
import HandS.HeadHook4
import HandS.HeadWalk
import PySem.Challenge.RW_treatalike_k17_every_vote_rule_by_digits
import HandS.Wide
import HandS.IsInst
import HandS.Style
import KE.KStateDown
import HandS.Head0
import HandS.Head1
import HandS.Head2
import HandS.HeadEnd
import HandS.HeadHook1
import HandS.HeadHook2
import HandS.HeadHook3
set_option Elab.async false
set_option linter.all false
set_option maxRecDepth 100000
set_option maxHeartbeats 4000000
/-! Own rules: built-ins over tuples of ints. -/
namespace KX
open PySem PySem.Spec PyProof.Rows L2
section
variable {prog : Program} {w : World} {A : Around} {E : Value → Shared → Prop} {s : Shared} {t : Addr} {xs : Array (Int × Tok)}
theorem tup_iter {Q : Value → Shared → Prop} (ht : s.heap.IsTuple t (intItems xs))
    (h : ∀ s2 : Shared, s2 = { s with heap := s.heap.push { cls := .type "tuple_iterator", data := .fields #[.ref t, .int 0 0] } } →
      (s2.heap.IsTupleIter s.heap.objs.size t 0 ∧ s2.heap.IsTuple t (intItems xs)) → (∀ b ∈ [s.heap.objs.size, t], b < s2.heap.objs.size) → t ≠ s.heap.objs.size → Q (.ref s.heap.objs.size) s2) :
    wpAny (model prog w) A (pyIter (.ref t)) Q E s := by
  have lt : t < s.heap.objs.size := by
    obtain ⟨_, e, _⟩ := ht
    exact Heap.lt_size e
  refine wpAny_pyIter_tuple ht (h _ rfl ⟨⟨_, Heap.get?_push_size _ rfl, rfl, rfl⟩, ht.at fun o e => Heap.get?_push_of_some _ e⟩ ?_ (Nat.ne_of_lt lt))
  intro b hb
  show b < (s.heap.push _).objs.size
  rw [Heap.size_push]
  have hb' : b = s.heap.objs.size ∨ b = t := by simpa using hb
  rcases hb' with e | e
  · rw [e]
    exact Nat.lt_succ_self _
  · rw [e]
    exact Nat.lt_succ_of_lt lt
theorem kept_tup {h' : Heap} (hk : ∀ b o, b ∉ [s.heap.objs.size] → (s.heap.push { cls := .type "tuple_iterator", data := .fields #[.ref t, .int 0 0] }).get? b = some o → h'.get? b = some o) :
    ∀ b o, s.heap.get? b = some o → h'.get? b = some o := by
  intro b o e
  refine hk b o ?_ (Heap.get?_push_of_some _ e)
  intro hm
  have e1 : b = s.heap.objs.size := by simpa using hm
  have lt := Heap.lt_size e
  rw [e1] at lt
  exact Nat.lt_irrefl _ lt
theorem max_intTup {Q : Value → Shared → Prop} (hh : A.handled = none) (ht : s.heap.IsTuple t (intItems xs)) (hne : 0 < xs.size)
    (h : ∀ v h' tk, (intItems xs)[argBest (fun i j => decide (numAt xs i > numAt xs j)) (xs.size - 1)]? = some v → (∀ b o, s.heap.get? b = some o → h'.get? b = some o) → Q v { s with heap := h', toks := tk }) :
    wpAny (model prog w) A (call (.builtin "max") [.ref t]) Q E s := by
  refine call_max_walk (tup_iter ht fun s2 e st hfp hlI => ?_)
  subst e
  have hsz : (intItems xs).size = xs.size := by simp [intItems]
  refine ⟨_, _, _, _, _, _, _, rfl, Walks.tuple (A := A.in1) hh _ t hlI (intItems xs), st, hfp, by rw [hsz]; exact hne, CmpOf.ints_gt (numAt xs) (fun _ _ => intItems_at), fun v h' tk hP hk => ?_⟩
  rw [hsz] at hP
  exact h v h' tk hP (kept_tup hk)
theorem min_intTup {Q : Value → Shared → Prop} (hh : A.handled = none) (ht : s.heap.IsTuple t (intItems xs)) (hne : 0 < xs.size)
    (h : ∀ v h' tk, (intItems xs)[argBest (fun i j => decide (numAt xs i < numAt xs j)) (xs.size - 1)]? = some v → (∀ b o, s.heap.get? b = some o → h'.get? b = some o) → Q v { s with heap := h', toks := tk }) :
    wpAny (model prog w) A (call (.builtin "min") [.ref t]) Q E s := by
  refine call_min_walk (tup_iter ht fun s2 e st hfp hlI => ?_)
  subst e
  have hsz : (intItems xs).size = xs.size := by simp [intItems]
  refine ⟨_, _, _, _, _, _, _, rfl, Walks.tuple (A := A.in1) hh _ t hlI (intItems xs), st, hfp, by rw [hsz]; exact hne, CmpOf.ints_lt (numAt xs) (fun _ _ => intItems_at), fun v h' tk hP hk => ?_⟩
  rw [hsz] at hP
  exact h v h' tk hP (kept_tup hk)
end
section
variable {X : Cx}
def rSumT (K : PySem.W.Frag) : List V → Hp → VK → Prop := fun vs H Q => ∃ (a : Addr) (ns : List Int), vs = [V.ref a] ∧ SqT K H a (ns.map V.int) ∧ Q (.int ns.sum) H
def rMaxT (K : PySem.W.Frag) : List V → Hp → VK → Prop := fun vs H Q => ∃ (a : Addr) (ns : List Int), vs = [V.ref a] ∧ SqT K H a (ns.map V.int) ∧ 0 < ns.length ∧ ∀ m, m ∈ ns → (∀ y, y ∈ ns → y ≤ m) → Q (.int m) H
def rMinT (K : PySem.W.Frag) : List V → Hp → VK → Prop := fun vs H Q => ∃ (a : Addr) (ns : List Int), vs = [V.ref a] ∧ SqT K H a (ns.map V.int) ∧ 0 < ns.length ∧ ∀ m, m ∈ ns → (∀ y, y ∈ ns → m ≤ y) → Q (.int m) H
def rSortT (K : PySem.W.Frag) : List V → Hp → VK → Prop := fun vs H Q => ∃ (a : Addr) (ns : List Int), vs = [V.ref a] ∧ SqT K H a (ns.map V.int) ∧ ns.length < 64 ∧
  ∀ (ys : List Int) (p : Addr), ys.Perm ns → ys.Pairwise (· ≤ ·) → H p = none → Q (.ref p) (upd H p (.lst (ys.map V.int)))
theorem cr_sumT (hc : X.calm = true) : CallR X (.builtin "sum") (rSumT X.K) := by
  intro pins s σ H vs us Q I r h
  obtain ⟨a, ns, rfl, hs, q⟩ := h
  obtain ⟨its, rv, ht, _⟩ := I.tuple hs
  rw [Vals.ref1 r]
  have hi := rv.ints
  obtain ⟨zs, e⟩ := hi.allInts.items
  have hn : numsOf (intItems zs).toList = ns := by rw [← e]; exact hi.numsOf
  rw [nums_intItems] at hn
  have ht2 : s.heap.IsTuple a its.toArray := ht
  rw [e] at ht2
  refine PySem.W.ktm_sumG (I.ok.hd hc) ht2 fun h' tk t' hk => ?_
  rw [preSum_eq, List.take_of_length_le (by simp), hn]
  exact ⟨.int _, H, I.kept hk, ⟨_, rfl⟩, q⟩
theorem cr_maxT (hc : X.calm = true) : CallR X (.builtin "max") (rMaxT X.K) := by
  intro pins s σ H vs us Q I r h
  obtain ⟨a, ns, rfl, hs, hne, q⟩ := h
  obtain ⟨its, rv, ht, _⟩ := I.tuple hs
  rw [Vals.ref1 r]
  have hi := rv.ints
  obtain ⟨zs, e⟩ := hi.allInts.items
  have hn : numsOf (intItems zs).toList = ns := by rw [← e]; exact hi.numsOf
  rw [nums_intItems] at hn
  subst hn
  have ht2 : s.heap.IsTuple a its.toArray := ht
  rw [e] at ht2
  have hsz : 0 < zs.size := by simpa using hne
  refine max_intTup (I.ok.hd hc) ht2 hsz fun v h' tk hv hk => ?_
  obtain ⟨t, rfl⟩ := intItems_at hv
  obtain ⟨h1, h2⟩ := argBest_gt (numAt zs) (zs.size - 1)
  refine ⟨.int _, H, I.kept hk, ⟨_, rfl⟩, q _ ?_ ?_⟩
  · rw [numAt_eq]
    exact PySem.getD_mem (by rw [List.length_map, Array.length_toList]; omega)
  · intro y hy
    obtain ⟨j, hj, rfl⟩ := mem_getD hy
    rw [List.length_map, Array.length_toList] at hj
    rw [← numAt_eq]
    exact h2 j (by omega)
theorem cr_minT (hc : X.calm = true) : CallR X (.builtin "min") (rMinT X.K) := by
  intro pins s σ H vs us Q I r h
  obtain ⟨a, ns, rfl, hs, hne, q⟩ := h
  obtain ⟨its, rv, ht, _⟩ := I.tuple hs
  rw [Vals.ref1 r]
  have hi := rv.ints
  obtain ⟨zs, e⟩ := hi.allInts.items
  have hn : numsOf (intItems zs).toList = ns := by rw [← e]; exact hi.numsOf
  rw [nums_intItems] at hn
  subst hn
  have ht2 : s.heap.IsTuple a its.toArray := ht
  rw [e] at ht2
  have hsz : 0 < zs.size := by simpa using hne
  refine min_intTup (I.ok.hd hc) ht2 hsz fun v h' tk hv hk => ?_
  obtain ⟨t, rfl⟩ := intItems_at hv
  obtain ⟨h1, h2⟩ := argBest_lt (numAt zs) (zs.size - 1)
  refine ⟨.int _, H, I.kept hk, ⟨_, rfl⟩, q _ ?_ ?_⟩
  · rw [numAt_eq]
    exact PySem.getD_mem (by rw [List.length_map, Array.length_toList]; omega)
  · intro y hy
    obtain ⟨j, hj, rfl⟩ := mem_getD hy
    rw [List.length_map, Array.length_toList] at hj
    rw [← numAt_eq]
    exact h2 j (by omega)
theorem cr_sortT : CallR X (.builtin "sorted") (rSortT X.K) := by
  intro pins s σ H vs us Q I r h
  obtain ⟨a, ns, rfl, hs, h64, q⟩ := h
  obtain ⟨its, rv, ht, hz⟩ := I.tuple hs
  rw [Vals.ref1 r]
  have hi := rv.ints
  have hl : its.length = ns.length := hi.length
  obtain ⟨o, ho, hc, n, hd⟩ := ht
  refine Calls.call_function_entry PyProof.Rows.kind_sorted PyProof.Rows.plain_sorted PyProof.Rows.entry_sorted (PyProof.Rows.args_sorted1 _) ?_
  unfold Builtin.«sorted»
  refine wpAny_bind (m := checkCount "sorted" 1 1 _) (wpAny_pure ?_)
  have big : its.toArray.size ≤ sizeLine := by
    rw [List.size_toArray, hl, sizeLine_eq]
    omega
  refine wpAny_bind (wpAny_collect_seq a (.inr rfl) ho hc hd (fun h' hk => ?_) big)
  have I1 : Inv X pins σ H { s with heap := h' } := I.kept (t' := s.toks) hk
  have e0 : its.toArray.toList = its := by simp
  rw [e0]
  refine wpAny_bind (wpAny_newList ?_ (by rw [hl, sizeLine_eq]; omega))
  have hoL : (h'.push (seqObj "list" its.toArray 0)).get? h'.objs.size = some (seqObj "list" its.toArray 0) := Heap.get?_push_size _ rfl
  show wpAny _ _ _ _ _ { s with heap := h'.push (seqObj "list" its.toArray 0) }
  refine wpAny_bind (wpAny_holding (wpAny_call_entry PyProof.Rows.slot_list_sort ⟨_, hoL, rfl⟩ PyProof.Rows.entry_list_sort (PyProof.Rows.list_sort_tree (s := { s with heap := h'.push (seqObj "list" its.toArray 0) }) hoL hi (by rw [hl]; exact h64) fun out ys g1 g2 g3 => ⟨_, rfl, ?_⟩) (PyProof.Rows.args_list_sort _)))
  obtain ⟨ep, he⟩ := PyProof.Rows.sortedHeap_at (vs := its) (out := out) hoL
  have hlen : (ys.map V.int).length ≤ sizeLine := by
    rw [List.length_map, g2.length_eq, sizeLine_eq]
    omega
  have new : ObjOk X.prog X.w (upd H h'.objs.size (.lst (ys.map V.int))) (PyProof.Rows.sortedHeap (h'.push (seqObj "list" its.toArray 0)) h'.objs.size its out) h'.objs.size (.lst (ys.map V.int)) :=
    ⟨hlen, out.toList, ep, vals_of_ints g1, by rw [Array.toArray_toList]; exact he⟩
  refine wpAny_pure ⟨_, rfl, .ref h'.objs.size, upd H h'.objs.size (.lst (ys.map V.int)), I1.laid (t' := s.toks) (fun b u e => ?_) (Nat.le_refl _) new, rfl, q ys _ g2 g3 (I1.hok.fresh (Nat.le_refl _))⟩
  have hb : b < h'.objs.size := Heap.lt_size e
  rw [PyProof.Rows.sortedHeap_old (Nat.ne_of_lt hb) (by rw [Heap.size_push]; exact Nat.lt_succ_of_lt hb)]
  exact Heap.get?_push_of_some _ e
end
end KX
namespace KX
open PySem PySem.Spec PyProof.Rows L2
theorem tuple_mul_one (l : Addr) (items : Array Value) (n : Nat) (sl : Array (Option Value)) (dd : Option Addr) (u : Tok) (c1 : (items.isEmpty || (1 : Int) == 1) = true) :
    Meets (Builtin.«tuple.__mul__» ⟨[.ref l, .int 1 u], []⟩) (fun _ R s => s.heap.get? l = some { cls := .type "tuple", dict := dd, data := .seq items n, slots := sl } ∧ R (.ok (.ret (Value.ref l))) s) :=
  .of_wp fun prog w A R s h => by
    obtain ⟨hp, g, d, tk, os⟩ := s
    obtain ⟨hl, h⟩ := h
    have f1 := AutoSeq1.idx_int
    wp_walk using wpAny_loadPart' hl
    exact ⟨_, rfl, h⟩
section
variable {X : Cx}
/-- t * k of a tuple that is not empty, k at least 1 -/
def rRepA (K : PySem.W.Frag) : R2 := fun x y H Q => ∃ l k xs, x = .ref l ∧ y = .int k ∧ SqT K H l xs ∧ xs ≠ [] ∧ 1 ≤ k ∧ k ≤ 1000 ∧ xs.length ≤ 1000 ∧ (k = 1 → Q (.ref l) H) ∧ (2 ≤ k → ∀ p, H p = none → Q (.ref p) (upd H p (.tup (List.replicate k.toNat xs).flatten)))
theorem op_repA : OpR X (binaryOp .Mult) (rRepA X.K) := by
  intro pins s σ H x y v u Q I rx ry h
  obtain ⟨l, k, xs, rfl, rfl, hT, hne, h1, h2, hz, q1, q2⟩ := h
  by_cases hk : 2 ≤ k
  · exact op_repT pins s σ H _ _ v u Q I rx ry ⟨l, k, xs, rfl, rfl, hT, hne, hk, h2, hz, q2 hk⟩
  · have e1 : k = 1 := by omega
    subst e1
    cases rx
    obtain ⟨t, rfl⟩ := ry
    obtain ⟨its, r, ⟨⟨cls, dd, data, sl⟩, ho, hc, n, hd⟩, hs⟩ := I.tuple hT
    simp only at hc hd
    subst hc hd
    refine wpAny_binaryOp_repeat_ref (T := "tuple") (U := "int") (by decide) ⟨_, ho, rfl⟩ (fun s' => typeIs_int s' 1 t) noFill_tuple_mul F.fills_int_mul F.slot_int_rmul repeat_tuple F.slot_int_index.lookup
      (call_meets F.slot_int_rmul (typeIs_int s 1 t) F.entry_int_rmul (F.args_int_rmul_2 _ _) (int_rmul_tuple 1 t l its.toArray n dd sl) ?_)
    refine ⟨ho, rfl, ⟨_, ho, rfl⟩, call_meets F.slot_tuple_mul ⟨_, ho, rfl⟩ F.entry_tuple_mul (F.args_tuple_mul_2 _ _) (tuple_mul_one l its.toArray n sl dd t (by simp)) ⟨ho, ?_⟩⟩
    exact ⟨.ref l, H, I, rfl, q1 rfl⟩
end
/-! ### dict(d), keys that are tuples -/
section
variable {prog : Program} {w : World} {κ : Type} [DecidableEq κ] {knd : HeapKind prog w κ} {A : Around} {E : Value → Shared → Prop} {s : Shared}
theorem hnew_empty (h : Heap) : (h.push { cls := .type "dict", data := .dict #[] }).DictOfH knd h.objs.size [] :=
  ⟨_, _, _, Heap.get?_push_size _ rfl, ⟨rfl, rfl, rfl⟩, rfl, rfl, fun x hx => absurd hx List.not_mem_nil, List.nodup_nil⟩
theorem hpushed {h : Heap} {d : Addr} {xs : List (κ × Addr × Value)} (ob : Obj) (hst : ∀ x ∈ xs, knd.is (h.push ob) x.1 x.2.1) (x : h.DictOfH knd d xs) : (h.push ob).DictOfH knd d xs := by
  obtain ⟨o, es, ep, h1, h2, h3, h4, h5, h6⟩ := x
  exact ⟨o, es, ep, Heap.get?_push_of_some _ h1, h2, h3, h4, hst, h6⟩
theorem call_dict_copyH {o : Addr} {more : List (κ × Addr × Value)} {Q : Value → Shared → Prop} (hu : knd.room A.in1.in1) (hoS : (o == sysModules) = false) (ho : s.heap.DictOfH knd o more) (hsz : more.length ≤ sizeLine)
    (hst : ∀ x ∈ more, knd.is (s.heap.push { cls := .type "dict", data := .dict #[] }) x.1 x.2.1)
    (hty : ∀ x ∈ more, ({ s with heap := s.heap.push { cls := .type "dict", data := .dict #[] } } : Shared).TypeIs (.ref x.2.1) "tuple") (hap : (more.map fun x => knd.hash x.1).Nodup)
    (h : ∀ h', h'.DictOfH knd s.heap.objs.size more → Heap.SameBut s.heap.objs.size (s.heap.push { cls := .type "dict", data := .dict #[] }) h' → Q (.ref s.heap.objs.size) { s with heap := h' }) :
    wpAny (model prog w) A (call (.type "dict") [.ref o]) Q E s := by
  have hn := ho.nodup
  have hdo : s.heap.objs.size ≠ o := by
    obtain ⟨_, _, _, hg, _⟩ := ho
    intro e
    have lt := Heap.lt_size hg
    rw [← e] at lt
    exact Nat.lt_irrefl _ lt
  have hnew : (s.heap.push { cls := .type "dict", data := .dict #[] }).DictOfH knd s.heap.objs.size [] := hnew_empty s.heap
  have ho' : (s.heap.push { cls := .type "dict", data := .dict #[] }).DictOfH knd o more := hpushed _ hst ho
  refine callType_codes (Q₁ := fun obj s₁ => obj = .ref s.heap.objs.size ∧ s₁ = { s with heap := s.heap.push { cls := .type "dict", data := .dict #[] } }) F.kt_called_dict (F.kt_typeCall_dict_1 _) F.entry_dict_init (kt_code_dict_new _ ⟨rfl, rfl⟩) ?_
  rintro obj s₁ ⟨rfl, rfl⟩
  refine ⟨hnew.typeIs, F.args_dict_init_2 _ _, ?_⟩
  unfold Builtin.«dict.__init__»
  refine wpAny_bind ?_
  unfold Builtin.Dict.selfAndRest
  refine wpAny_bind (wpAny_notOrdered_dict hnew.typeIs ?_)
  show wpAny _ _ (pure (s.heap.objs.size, [Value.ref o])) _ _ _
  refine wpAny_pure ?_
  show wpAny _ _ (Builtin.Dict.updateFrom "dict.__init__" s.heap.objs.size (.ref o) [] .none) _ _ _
  refine updateFrom_dictH .none hu hdo hoS hnew ho' (.inr ⟨hty, hap⟩) (by simpa using hsz) fun h' hd' _ hs' => ?_
  rw [storedAllH_nil_of_nodup more hn] at hd'
  exact ⟨rfl, h h' hd' hs'⟩
end
section
variable {X : Cx}
def rDictT (X : Cx) : List V → Hp → VK → Prop := fun xs H Q => ∃ (d : Addr) (kvs : List (List Key × V)), xs = [V.ref d] ∧ Rd H d (.dT kvs) ∧ (kvs.map fun x => (tupleKind (mixKind X.prog X.w)).hash x.1).Nodup ∧ ∀ p, H p = none → Q (.ref p) (upd H p (.dT kvs))
theorem kt_keys {H : Hp} : ∀ {l : List (List Key × V)} {m : List (List Key × Addr × Value)}, KT H l m → m.map (fun x => x.1) = l.map fun x => x.1
  | _, _, .nil => rfl
  | _, _, .cons h t => by
    rw [List.map_cons, List.map_cons, kt_keys t, h.1]
theorem kt_tup {P : Program} {w : World} {H : Hp} {h : Heap} (ok : HOk P w H h) : ∀ {l : List (List Key × V)} {m : List (List Key × Addr × Value)}, KT H l m → ∀ x ∈ m, H x.2.1 = some (.tup (x.1.map kV))
  | _, _, .nil => fun x hx => absurd hx List.not_mem_nil
  | _, _, .cons h t => fun x hx => by
    rcases List.mem_cons.mp hx with e | hx
    · rw [e, ← h.1]
      exact h.2.1
    · exact kt_tup ok t x hx
theorem call_dict_dT (hu : X.A.units + 5 < cLine) : CallR X (.type "dict") (rDictT X) := by
  intro pins s σ H xs us Q I r q
  obtain ⟨d, kvs, rfl, hd, hap, q⟩ := q
  obtain ⟨u, rfl, rx⟩ := vals1 r
  cases rx
  obtain ⟨z, lo, zs, rel, dd⟩ := dt_rd I.hok hd
  have hl : kvs.length = zs.length := Paired.length rel
  have ek := kt_keys rel
  have hap2 : (zs.map fun x => (tupleKind (mixKind X.prog X.w)).hash x.1).Nodup := by
    have e : (zs.map fun x => (tupleKind (mixKind X.prog X.w)).hash x.1) = (kvs.map fun x => (tupleKind (mixKind X.prog X.w)).hash x.1) := by
      have e1 := congrArg (List.map (tupleKind (mixKind X.prog X.w)).hash) ek
      rw [List.map_map, List.map_map] at e1
      exact e1
    rw [e]
    exact hap
  have kp : ∀ b o, s.heap.get? b = some o → (s.heap.push { cls := .type "dict", data := .dict #[] }).get? b = some o := fun b o e => Heap.get?_push_of_some _ e
  have I1 : Inv X pins σ H { s with heap := s.heap.push { cls := .type "dict", data := .dict #[] } } := I.kept (t' := s.toks) kp
  have tp := kt_tup I.hok rel
  refine call_dict_copyH (knd := tupleKind (mixKind X.prog X.w)) (tupleKind_room_in1 (A := X.A.in1) (by show X.A.units + 1 + 1 < cLine; omega)) lo dd (by rw [← hl]; exact z) (fun x hx => key_of I1.hok (tp x hx)) (fun x hx => ?_) hap2 fun h' d' hs => ?_
  · obtain ⟨_, its, _, o, ho, hc, _⟩ := (show ObjOk X.prog X.w H _ x.2.1 (.tup (x.1.map kV)) from I1.hok x.2.1 _ (tp x hx))
    exact ⟨o, ho, hc⟩
  · have hm : (s.heap.objs.size == sysModules) = false := beq_eq_false_iff_ne.mpr (Nat.ne_of_gt I.big)
    obtain ⟨o, es, ep, g1, g2, g3, g4, g5, g6⟩ := d'
    have fr : H s.heap.objs.size = none := I.hok.fresh (Nat.le_refl _)
    have new : ObjOk X.prog X.w (upd H s.heap.objs.size (.dT kvs)) h' s.heap.objs.size (.dT kvs) :=
      ⟨z, hm, zs, rel.keeps (fun b ys e => by rw [upd_ne (ne_of_none e fr)]; exact e), o, es, ep, g1, g2, g3, g4, g6⟩
    exact ⟨.ref s.heap.objs.size, upd H s.heap.objs.size (.dT kvs), I.laid (t' := s.toks) (fun b u e => (hs.2 b (Nat.ne_of_lt (Heap.lt_size e))).trans (kp b u e)) (Nat.le_refl _) new, rfl, q _ fr⟩
end
end KX
/-! {k: v for x in ..} whose keys are tuples. -/
namespace KX
open PySem PySem.Spec PyProof.Rows L2
theorem put_dT {X : Cx} {pins : List (Addr × Obj)} {σ : L2.St} {H : Hp} {s : Shared} {E : Value → Shared → Prop} {A : Around} {D b : Addr} {kvs : List (List Key × V)} {k : List Key} {v : V} {r : Value} {Q : Unit → Shared → Prop} (hu : A.units + 1 < cLine)
    (I : L2.Inv X pins σ H s) (e : H D = some (.dT kvs)) (eb : H b = some (.tup (k.map kV))) (l : kvs.length < sizeLine) (rv : RelV v r) (h : ∀ s', L2.Inv X pins σ (upd H D (.dT (putK kvs k v))) s' → Q () s') :
    wpAny (model X.prog X.w) A (dictSet D (.ref b) r) Q E s := by
  obtain ⟨z, hd, xs, rel, dd⟩ := dt_of I.hok e
  have hz : xs.length ≤ sizeLine := by
    rw [← Paired.length rel]
    exact z
  have hl : (putK kvs k v).length ≤ sizeLine := by
    have := length_putK kvs k v
    omega
  refine wpAny_dictSet_heap (hsz := hz) (show (tupleKind (mixKind X.prog X.w)).room A from (by show A.units < cLine; omega)) (key_of I.hok eb) dd (fun h' dd' hs => h _ ?_)
  obtain ⟨q, es, ep, hq, h2, h3, h4, _, h5⟩ := dd'
  have keep : KT (upd H D (.dT (putK kvs k v))) (putK kvs k v) (storedH xs k b r) := (rel.put k eb rv).keeps (fun c ys ec => by
    rw [upd_ne (ne_of ec e (fun z => nomatch z))]
    exact ec)
  exact d_write I (by rw [e]; exact True.intro) hs ⟨q, hq⟩ ⟨hl, hd, _, keep, q, es, ep, hq, h2, h3, h4, h5⟩
def tDcT (wi : TI) (g : TG) (tt : TT) (tk tv : TE) (vs : List Nat) : TE := fun σ H Q => wi σ H fun J H1 => ∀ D, H1 D = none → ∃ W : Nat → Nat → Hp → Prop, (∃ m, W 0 m (upd H1 D (.dT []))) ∧ ∀ i m H, W i m H →
  (J.stop i H ∧ Q (.ref D) H) ∨ (J.go i H ∧ ∃ Nx : Hp → Prop, (∀ H', Nx H' → ∃ m', m' < m ∧ W (i + 1) m' H') ∧ ∀ x H', J.yld i H x H' → g x (wipe σ vs) H' fun σ2 H2 => wipe σ2 vs = wipe σ vs ∧ tt σ2 H2 fun b H3 =>
    if b = true then tk σ2 H3 fun y H4 => tv σ2 H4 fun z H5 => ∃ kvs k c, y = .ref c ∧ H5 c = some (.tup (k.map kV)) ∧ H5 D = some (.dT kvs) ∧ kvs.length < sizeLine ∧ Nx (upd H5 D (.dT (putK kvs k z))) else Nx H3)
section
variable {X : Cx}
abbrev Blk (X : Cx) (scope : Scope) (P : Cx → Prop) : Prop := ∀ (s : Shared) (H : Hp) (C : Addr) (cl : List (Str × Addr)) (fp : List Addr), P (X.blk s H scope (compEnvC scope cl C X.env) fp)
theorem dcT_core {pins : List (Addr × Obj)} {s : Shared} {σ : L2.St} {H : Hp} {Q : VK} {kx vx tg iter : Expr} {ifs : List Expr} {scope : Scope} {own : List (Str × Nat)} {pos pos' : Pos} {wi : TI} {g : TG} {tt : TT} {tk tv : TE} {use : Option (Value → Sem Unit)} {Qf : Value → Shared → Prop}
    (hu : X.A.units + 1 < cLine) (hc : X.calm = true) (hN : X.N.Nodup) (I : L2.Inv X pins σ H s) (hi : PI X tg iter wi) (ok : BlkOk X.N X.env.scope scope own)
    (hg : Blk X scope fun Y => PG Y tg g) (ht : Blk X scope fun Y => PTs Y ifs tt) (hk : Blk X scope fun Y => PE Y kx tk) (he : Blk X scope fun Y => PE Y vx tv) (hs : ∀ x, foldedSetIterable iter X.env x = pure x)
    (h : tDcT wi g tt tk tv (own.map (·.2)) σ H Q)
    (back : ∀ D C s' m H', L2.Inv X pins σ H' s' → Q (.ref D) H' → s'.heap.Ns C m → FpOk X pins H' C → compPost (model X.prog X.w) X.A X.xe use Qf (.ref D) C (.ok .next) s') :
    wpAny (model X.prog X.w) X.A (comprehension (.DictComp kx vx [⟨tg, iter, ifs, 0⟩] scope pos) scope X.env pos' newDict false (eval iter X.env) use) Qf X.xe s := by
  have caught : ∀ y ∈ scope.names, y.2 = .free → ∃ c, X.env.cells.lookup y.1 = some c := by
    intro y hy e
    rcases ok.free y hy e with k | k
    · exact I.ok.has _ (.inl k)
    · exact I.ok.has _ (.inr k)
  refine wpAny_comprehension_free (use := use) rfl hs (closure_ok caught) ok.kind (fun y hy e => by rw [ok.uniq y hy, e]) (thn (hi.run pins s σ H _ I h) fun xv s1 hx => thn hx fun itv s2 h2 => ?_)
  obtain ⟨it, fp, tn, J, H2, e, I2, T, st2, f2, q⟩ := h2
  subst e
  refine wpAny_newObj_type (newEnv_comp ?_)
  generalize hD : s2.heap.objs.size = D
  have freeD : H2 D = none := I2.hok.fresh (Nat.le_of_eq hD)
  obtain ⟨W, ⟨m0, w0⟩, turn⟩ := q D freeD
  -- the dict that is made
  generalize hs3 : ({ s2 with heap := s2.heap.push { cls := .type "dict", data := .dict #[] } } : Shared) = s3
  have I3 : L2.Inv X pins σ (upd H2 D (.dT [])) s3 := by
    rw [← hs3]
    refine I2.laid (t' := s2.toks) (fun b o e => Heap.get?_push_of_some _ e) (Nat.le_of_eq hD) ?_
    rw [← hD]
    exact dt_empty s2.heap I2.big
  have heap3 : s3.heap = s2.heap.push { cls := .type "dict", data := .dict #[] } := by rw [← hs3]
  have small : ∀ b ∈ fp, b < s2.heap.objs.size := by
    intro b hb
    obtain ⟨o, e, _⟩ := T.obj _ _ st2 b hb
    exact Heap.lt_size e
  have f3 : ∀ b ∈ fp, FpOk X pins (upd H2 D (.dT [])) b ∧ b < s3.heap.objs.size := by
    intro b hb
    have hlt := small b hb
    refine ⟨⟨?_, (f2 b hb).2⟩, by rw [heap3, Heap.size_push]; exact Nat.lt_succ_of_lt hlt⟩
    rw [upd_ne (by rw [← hD]; exact Nat.ne_of_lt hlt)]
    exact (f2 b hb).1
  have st3 : tn 0 s3.heap := T.keep _ _ _ st2 fun b _ o e => by
    rw [heap3]
    exact Heap.get?_push_of_some _ e
  have I4 := block_start I3 ok hN f3
  generalize hcl : cellsFrom (s3.heap.objs.size + 1) scope.names (cloFrom X.env.cells scope.names []) = cl at I4
  have pg := hg s3 (upd H2 D (.dT [])) s3.heap.objs.size cl fp
  have pt := ht s3 (upd H2 D (.dT [])) s3.heap.objs.size cl fp
  have pk := hk s3 (upd H2 D (.dT [])) s3.heap.objs.size cl fp
  have pe := he s3 (upd H2 D (.dT [])) s3.heap.objs.size cl fp
  show codeAny _ _ (.compStart (.DictComp kx vx [⟨tg, iter, ifs, 0⟩] scope pos) 0 (.ref it) (.ref D) (compEnvC scope cl s3.heap.objs.size X.env))
    (compPost (model X.prog X.w) X.A X.xe use Qf (.ref D) s3.heap.objs.size) { s3 with heap := pushCells (s3.heap.push { cls := .type "dict", data := .dict #[] }) scope.names }
  have freeF : ∀ b ∈ fp, (upd H2 D (.dT [])) b = none := fun b hb => (f3 b hb).1.1
  generalize hce : compEnvC scope cl s3.heap.objs.size X.env = ce at I4 pg pt pk pe ⊢
  have cL : ce.locals = s3.heap.objs.size := by subst hce; rfl
  generalize hH3 : upd H2 D (.dT []) = H3 at I3 I4 pg pt pk pe w0 freeF f3
  generalize hs4 : ({ s3 with heap := pushCells (s3.heap.push { cls := .type "dict", data := .dict #[] }) scope.names } : Shared) = s4 at I4 ⊢
  have st4 : tn 0 s4.heap := T.keep _ _ _ st3 fun b _ o e => by
    rw [← hs4]
    exact pushCells_keeps _ _ _ _ (Heap.get?_push_of_some _ e)
  have stay : ∀ {σ' : L2.St} {H' : Hp} {s' : Shared}, L2.Inv (X.blk s3 H3 scope ce fp) [] σ' H' s' → (∀ b ∈ fp, H' b = none) → ∀ b ∈ fp, FpOk (X.blk s3 H3 scope ce fp) [] H' b := fun {σ' H' s'} I' hn b hb =>
    ⟨hn b hb, (I'.ok.exf b hb).1, I'.ok.exfs b hb, .inl hb, fun x c e => (I'.ok.exf b hb).2 x c e, fun p hp => absurd (show p ∈ ([] : List (Addr × Obj)) ++ [] from hp) (by simp)⟩
  have loop : codeAny (model X.prog X.w) X.A (.compLoop (.DictComp kx vx [⟨tg, iter, ifs, 0⟩] scope pos) 0 (.ref it) (.ref D) ce) (compPost (model X.prog X.w) X.A X.xe use Qf (.ref D) s3.heap.objs.size) s4 := by
    refine compLoop_anyD (fun n s' => ∃ i H', L2.Inv (X.blk s3 H3 scope ce fp) [] (wipe σ (own.map (·.2))) H' s' ∧ tn i s'.heap ∧ (∀ b ∈ fp, H' b = none) ∧ W i n H') ?_ m0 ⟨0, H3, I4, st4, freeF, w0⟩
    rintro n s5 ⟨i, H5, I5, st5, n5, w5⟩
    rcases turn i n H5 w5 with ⟨stop, qq⟩ | ⟨go, Nx, hNx, step⟩
    · have td := T.done (X.blk s3 H3 scope ce fp) rfl rfl rfl hc i [] s5 _ H5 (fun _ _ => False) I5 (stay I5 n5) st5 stop
      refine thnF td fun r s6 ⟨hr, I6⟩ => ?_
      subst hr
      have I7 : L2.Inv X pins σ H5 s6 := I3.call' (ch := fp) I6.os I6.base I6.hok I6.bare fun b hb => ⟨(f3 b hb).1.2.2.2.1, (f3 b hb).1.2.1, (f3 b hb).1.2.2.2.2.1, (f3 b hb).1.2.2.2.2.2⟩
      have nC : H5 s3.heap.objs.size = none := by
        have z : H5 ce.locals = none := I6.free
        rw [cL] at z
        exact z
      obtain ⟨m, hn, _⟩ := I6.loc
      have hn : s6.heap.Ns ce.locals m := hn
      rw [cL] at hn
      exact back D s3.heap.objs.size s6 m H5 I7 qq hn (I3.fpOk (Nat.le_refl _) nC)
    · have ti := T.item (X.blk s3 H3 scope ce fp) rfl rfl rfl hc i [] s5 _ H5 (fun _ _ => False) I5 (stay I5 n5) st5 go
      refine thnF ti fun r s6 ⟨u, hr, h6⟩ => ?_
      subst hr
      refine thnF h6 fun _ s7 ⟨x, H7, I7, r7, y7, st7, n7⟩ => ?_
      have I7' := I7.pinned (stay I7 n7) (T.obj _ _ st7)
      refine thnF (pg.run _ s7 _ H7 x u _ I7' r7 (step x H7 y7)) fun _ s8 ⟨σ8, H8, I8, hw8, q8⟩ => ?_
      refine thnF (pt.run _ s8 σ8 H8 _ I8 q8) fun b s9 ⟨H9, I9, q9⟩ => ?_
      have fin : ∀ {s' : Shared} {H' : Hp}, L2.Inv (X.blk s3 H3 scope ce fp) ([] ++ pinsAt fp s7.heap) σ8 H' s' → Nx H' → ∃ m, m < n ∧ ∃ i H', L2.Inv (X.blk s3 H3 scope ce fp) [] (wipe σ (own.map (·.2))) H' s' ∧ tn i s'.heap ∧ (∀ b ∈ fp, H' b = none) ∧ W i m H' := by
        intro s' H' I' nx
        obtain ⟨m', hm, w'⟩ := hNx H' nx
        have pin' : ∀ b ∈ fp, ∀ o, s7.heap.get? b = some o → s'.heap.get? b = some o ∧ H' b = none := by
          intro b hb o e
          have z := I'.pin (b, o) (List.mem_append_right _ (List.mem_append_right _ (mem_pinsAt hb e)))
          exact ⟨z.1, z.2.1⟩
        have hl : (wipe σ (own.map (·.2))).length = σ8.length := by rw [← hw8, wipe_length]
        refine ⟨m', hm, i + 1, H', (I'.unpinned (pins := [])).weak hl (fun j v e => ?_), T.keep _ _ _ st7 fun b hb o e => (pin' b hb o e).1, fun b hb => ?_, w'⟩
        · rw [← hw8] at e
          exact (wipe_some e).1
        · obtain ⟨o, e, _⟩ := T.obj _ _ st7 b hb
          exact (pin' b hb o e).2
      cases b with
      | false =>
        simp only [Bool.false_eq_true, if_false] at q9 ⊢
        exact fin I9 q9
      | true =>
        simp only [if_true] at q9 ⊢
        refine thnF (pk.run _ s9 σ8 H9 _ I9 q9) fun z s10 ⟨yk, H10, I10, r10, q10⟩ => ?_
        refine thnF (pe.run _ s10 σ8 H10 _ I10 q10) fun z2 s11 ⟨yv, H11, I11, r11, kvs, k, c, ek, hc11, hD11, hz11, nx⟩ => ?_
        subst ek
        obtain rfl : z = Value.ref c := r10
        exact put_dT (X := X.blk s3 H3 scope ce fp) hu I11 hD11 hc11 hz11 r11 fun s12 I12 => fin I12 nx
  exact codeAny_compStart_dict loop (T.self X.A 0 _ _ _ st4 loop)
theorem pe_dcT {kx vx tg iter : Expr} {ifs : List Expr} {scope : Scope} {own : List (Str × Nat)} {pos : Pos} {wi : TI} {g : TG} {tt : TT} {tk tv : TE} (hu : X.A.units + 1 < cLine) (hc : X.calm = true) (hN : X.N.Nodup) (hi : PI X tg iter wi) (ok : BlkOk X.N X.env.scope scope own)
    (hg : Blk X scope fun Y => PG Y tg g) (ht : Blk X scope fun Y => PTs Y ifs tt) (hk : Blk X scope fun Y => PE Y kx tk) (he : Blk X scope fun Y => PE Y vx tv) (hs : ∀ x, foldedSetIterable iter X.env x = pure x := by intro _; rfl) :
    PE X (.DictComp kx vx [⟨tg, iter, ifs, 0⟩] scope pos) (tDcT wi g tt tk tv (own.map (·.2))) := by
  refine ⟨fun pins s σ H Q I h => ?_⟩
  rw [arm_eval_DictComp]
  refine dcT_core hu hc hN I hi ok hg ht hk he hs h fun D C s' m H' I' q hn f => ⟨m, hn, fun h'' sb => ?_⟩
  obtain ⟨f0, f1, f2, f3, f4, f5⟩ := f
  exact ⟨.ref D, H', I'.turned (t' := s'.toks) (fun b o hb e => (sb.2 b hb).trans e) f0 f1 f3 f4 f5, rfl, q⟩
/-- over a list that stays -/
theorem dcT_list {K : PySem.W.Frag} {a : Addr} {xs : List V} {g : TG} {tt : TT} {tk tv : TE} {vs : List Nat} {σ : L2.St} {H1 : Hp} {D : Addr} {Qd : Hp → Prop} (Pv : Nat → Hp → Prop) (h0 : Pv 0 (upd H1 D (.dT []))) (hl : ∀ i H, i ≤ xs.length → Pv i H → SqL K H a xs)
    (hs : ∀ i x H, xs[i]? = some x → Pv i H → g x (wipe σ vs) H fun σ2 H2 => wipe σ2 vs = wipe σ vs ∧ tt σ2 H2 fun b H3 =>
      if b = true then tk σ2 H3 fun y H4 => tv σ2 H4 fun z H5 => ∃ kvs k c, y = .ref c ∧ H5 c = some (.tup (k.map kV)) ∧ H5 D = some (.dT kvs) ∧ kvs.length < sizeLine ∧ Pv (i + 1) (upd H5 D (.dT (putK kvs k z))) else Pv (i + 1) H3) (hd : ∀ H, Pv xs.length H → Qd H) :
    ∃ W : Nat → Nat → Hp → Prop, (∃ m, W 0 m (upd H1 D (.dT []))) ∧ ∀ i m H, W i m H →
      ((Itl K a).stop i H ∧ Qd H) ∨ ((Itl K a).go i H ∧ ∃ Nx : Hp → Prop, (∀ H', Nx H' → ∃ m', m' < m ∧ W (i + 1) m' H') ∧ ∀ x H', (Itl K a).yld i H x H' → g x (wipe σ vs) H' fun σ2 H2 => wipe σ2 vs = wipe σ vs ∧ tt σ2 H2 fun b H3 =>
        if b = true then tk σ2 H3 fun y H4 => tv σ2 H4 fun z H5 => ∃ kvs k c, y = .ref c ∧ H5 c = some (.tup (k.map kV)) ∧ H5 D = some (.dT kvs) ∧ kvs.length < sizeLine ∧ Nx (upd H5 D (.dT (putK kvs k z))) else Nx H3) := by
  refine ⟨fun i m H => m = xs.length - i ∧ i ≤ xs.length ∧ Pv i H, ⟨xs.length, by simp, Nat.zero_le _, h0⟩, ?_⟩
  rintro i m H ⟨rfl, hi, p⟩
  have q := hl i H hi p
  by_cases hlt : i < xs.length
  · have go : (Itl K a).go i H := ⟨xs, xs[i], q, by simp [hlt]⟩
    refine .inr ⟨go, Pv (i + 1), fun H' p' => ⟨xs.length - (i + 1), by omega, rfl, hlt, p'⟩, fun x H' y => ?_⟩
    obtain ⟨e, y⟩ := y
    subst e
    exact hs i x _ (y xs q) p
  · obtain rfl : i = xs.length := by omega
    exact .inl ⟨⟨xs, q, Nat.le_refl _⟩, hd H p⟩
end
end KX
/-! A caught error handed to a def: its class asked, its field read. -/
namespace KX
open PySem PySem.Spec PyProof.Rows L2
open PySem.W (Looks)
theorem ans_exact {x t : Value} {S : Heap → Prop} (ty : ∀ (M : Model) (h : Heap), S h → Looks M h (typeOf x) t) : Answers (fun s => S s.heap) x t true := by
  intro dep tk prog w A R s hs
  obtain ⟨h0, g, d, tt, os⟩ := s
  obtain ⟨p, hq⟩ := hs
  have LT := ty (model prog w) h0 p
  unfold Builtin.«isinstance.nested»
  refine wpAny_bind (LT.at ?_)
  rw [if_pos (by simp)]
  first
    | exact wpAny_bind (wpAny_rule (hq tt))
    | exact wpAny_bind (wpAny_rule (wpAny_pure (hq tt)))
    | exact wpAny_pure (hq tt)
    | exact hq tt
    | skip
section
variable {prog : Program} {w : World} {A : Around} {E : Value → Shared → Prop} {s : Shared}
theorem isi_exact {x t : Value} {S : Heap → Prop} {Q : Value → Shared → Prop} (ty : ∀ (M : Model) (h : Heap), S h → Looks M h (typeOf x) t) (p : S s.heap) (hx : x ≠ .builtin "__main__.__loader__#opaque") (h : ∀ tk, Q (.bool true) { s with toks := tk }) :
    wpAny (model prog w) A (call (.builtin "isinstance") [x, t]) Q E s :=
  call_isinstance (S := fun _ R s => S s.heap ∧ ∀ tk, R (.ok (.ret (.bool true))) { s with toks := tk })
    (fun prog w A R s hs => isinstance_outer (ans_exact ty 0 _ prog w A R s hs) hx) ⟨p, h⟩
end
section
variable {X : Cx} {a C : Addr} {oe : Obj}
/-- isinstance(e, C) of an error of the class itself that the context bears -/
def rIsP (a C : Addr) : List V → Hp → VK → Prop := fun xs H Q => xs = [.ref a, .ref C] ∧ Q (.bl true) H
theorem call_isP (hp : (a, oe) ∈ X.pn) (hc : oe.cls = .ref C) : CallR X (.builtin "isinstance") (rIsP a C) := by
  intro pins s σ H xs us Q I r h
  obtain ⟨rfl, q⟩ := h
  cases r with
  | cons rx rr =>
    cases rr with
    | cons rt rr =>
      cases rr
      cases rx
      cases rt
      obtain ⟨hget, _⟩ := I.pin (a, oe) (List.mem_append.mpr (.inl hp))
      refine isi_exact (S := fun h => h.get? a = some oe) (fun M h e => ?_) hget (fun z => nomatch z) fun tk => ⟨.bl true, H, I.kept (t' := tk) fun _ _ z => z, rfl, q⟩
      rw [← hc]
      exact (Looks.ld e).andThen .now
/-- e.f, e an error that the context bears -/
def tXP (a : Addr) (d : Option Addr) (f : Str) (te : TE) : TE := fun σ H Q => te σ H fun x H1 => x = .ref a ∧ ∃ (dd : Addr) (fs : List (Str × V)) (v : V), d = some dd ∧ H1 dd = some (.xd fs) ∧ fs.lookup f = some v ∧ Q v H1
theorem pe_xP {d : Option Addr} {e : Expr} {te : TE} {pos : Pos} {n : Str} (T : XfC X.K C) (hno : PySem.W.findIn X.K (.ref C) n = some none) (hp : (a, oe) ∈ X.pn)
    (hz : Zc (.ref C) d oe) (hf : ∃ vs, oe.data = .fields vs) (he : PE X e te) (hb : attributeBase e n X.env (eval e X.env) = eval e X.env := by rfl) : PE X (.Attribute e n pos) (tXP a d n te) := by
  refine ⟨fun pins s σ H Q I h => ?_⟩
  refine attr_of hb (thn (he.run pins s σ H _ I h) fun u s1 hh => ?_)
  obtain ⟨x, H1, I1, rx, ex, dd, fs, v, ed, ea, l, q⟩ := hh
  subst ex
  obtain rfl : u = Value.ref a := rx
  subst ed
  obtain ⟨ha, _⟩ := I1.pin (a, oe) (List.mem_append_left _ hp)
  obtain ⟨vs, hd⟩ := hf
  obtain ⟨mA, hns, hr⟩ : ObjOk X.prog X.w H1 s1.heap dd (.xd fs) := I1.hok dd _ ea
  obtain ⟨od, ho, hl⟩ := lookIn_ns hns
  obtain ⟨u, hu, ru⟩ := RelO.some_of (v := v) (o := mA n) (by rw [← l]; exact hr n)
  have J : PySem.W.InstAt s1.heap a oe C (some od) := ⟨ha, hz.1, by unfold PySem.W.notCls; rw [hd] <;> rfl, by rw [hz.2]; exact ho⟩
  exact HandSPX.exc_get I1.kIn J T.ga T.gg T.exC (PySem.W.findObj_own T.hdC hno rfl (by rw [hl, hu])) (handed_of ru) ⟨v, H1, I1.tok _, ru, q⟩
end
/-! ### a def that is handed the caught error -/
open L2H (RoomH PinOk cxH inv_startH roomH_of)
structure FnE (P : Program) (w : World) (K : PySem.W.Frag) (mg : Str → Option Value) (base : Heap) (k : Nat) (f : Addr) (fd : FuncData) (ps : List Str) (sp : Addr × Obj → Sp) : Prop where
  len : ∀ p vs H Q E, sp p vs H Q E → vs.length = ps.length
  run : ∀ (A : Around) (outer : List Env) (s : Shared) (H : Hp) (args : Args) (us : List Value) (vs : List V) (Q : VK) (E : XK) (p : Addr × Obj), RoomH k A → PinOk outer H s p → Env0 P w K mg base A outer s H → BindsTo s fd args (ps.zip us) → Vals vs us → sp p vs H Q E →
    codeAny (model P w) A (.call (.ref f) args) (CR CX0 outer P w H s Q E) s
theorem fn_ofE {P : Program} {w : World} {K : PySem.W.Frag} {mg : Str → Option Value} {base : Heap} {k : Nat} {x qual : Str} {st : Stmt} {f : Addr} {fd : FuncData} {N ps : List Str} {sp : Addr × Obj → Sp} (F : Fun K x qual st f fd) (S : FnScope N ps (defScope st))
    (len : ∀ p vs H Q E, sp p vs H Q E → vs.length = ps.length)
    (hbody : ∀ (cdv : Value) (A : Around) (outer : List Env) (s : Shared) (H : Hp) (vs : List V) (Q : VK) (E : XK) (p : Addr × Obj), RoomH k (A.deeper (envOfC qual (defScope st) s.heap.objs.size f cdv)) → sp p vs H Q E →
      ∃ t, PSs (cxH CX0 P w K mg base N qual (defScope st) f cdv A outer s H E p) (defBody st) t ∧ t { nx := fun _ H' => Q .non H', rt := Q } (start N vs) H) :
    FnE P w K mg base (k + 1) f fd ps sp := by
  obtain ⟨oc, od, kV, doc, pm, an, cdv, ct, osl, rfl, lk, hcd⟩ := F.ex
  refine ⟨len, fun A outer s H args us vs Q E p hr hpin e0 hb r hsp => ?_⟩
  have hl := len _ _ _ _ _ hsp
  have KX : K.In s.heap := e0.mod.kin.keeps fun b o e => (e0.bs b o e).1
  have lim : s.heap.NoLimit := e0.mod.nolimit.keeps fun b o e => (e0.bs b o e).1
  have hkind : ∀ y ∈ ps.zip us, (defScope st).names.lookup y.1 = some .local ∨ ((defScope st).names.lookup y.1 = some .cell ∧ ((cellsFrom (s.heap.objs.size + 1) (defScope st).names []).lookup y.1).isSome = true) := by
    rintro ⟨n, v⟩ hy
    rcases S.par n (List.of_mem_zip hy).1 with q | q
    · exact .inl q
    · exact .inr ⟨q, PySem.W.cellsFrom_some _ _ _ (.inl q)⟩
  refine codeAny_call_function hr.depth (KX _ _ lk) rfl S.co S.gen rfl (PySem.W.codeRec_of KX hcd) (hb _ _ _ _ ?_)
  refine wpAny_newFunctionEnv_cells S.kind hkind fun env he s1 x => ?_
  subst he
  refine ⟨lim.keeps x.toInCall.keep, codeAny_func ?_⟩
  obtain ⟨t, ht, hq⟩ := hbody cdv A outer s H vs Q E p (hr.deeper _) hsp
  have I : L2.Inv (cxH CX0 P w K mg base N qual (defScope st) f cdv A outer s H E p) [] (start N vs) H s1 := inv_startH S hpin e0 hl r x
  refine wpAny_mono (ht.run [] s1 (start N vs) H _ I hq) (fun fl s' hs => ?_) fun e s' hs => hs
  have fin : ∀ {σ' : L2.St} {H' : Hp} {v : V} {u : Value}, L2.Inv (cxH CX0 P w K mg base N qual (defScope st) f cdv A outer s H E p) [] σ' H' s' → RelV v u → Q v H' → CE outer P w H s Q u s' := by
    intro σ' H' v u J rv q
    exact ⟨v, H', J.os, J.bare, J.base, J.hok, rv, q⟩
  cases fl with
  | ret u =>
    obtain ⟨v, σ', H', J, rv, q⟩ := hs
    exact fin J rv q
  | next =>
    obtain ⟨σ', H', J, q⟩ := hs
    exact fin (v := V.non) (u := Value.none) J rfl q
  | brk =>
    obtain ⟨_, _, _, q⟩ := hs
    exact False.elim q
  | cont =>
    obtain ⟨_, _, _, q⟩ := hs
    exact False.elim q
section
variable {X : Cx} {k : Nat} {f : Addr} {fd : FuncData} {ps : List Str} {sp : Addr × Obj → Sp} {x : Str} {q pos : Pos} {e : Expr} {es : List Expr} {t : TA} {p : Addr × Obj}
theorem pe_callE (F : FnE X.prog X.w X.K X.mg X.base k f fd ps sp) (hr : RoomH k X.A) (hp : p ∈ X.pn) (hg : Gl X x) (hm : X.mg x = some (.ref f)) (hk : PySem.W.keepIn X.K (.ref f) = true) (hb : Binds X.K fd ps [])
    (ha : PA X (e :: es) t) (hdb : (x == ("__debug__" : Str)) = false := by decide) (he : starEach (e :: es) X.env = (false, eval e X.env) :: starEach es X.env := by rfl) (hpl : (backTo pos (starEach es X.env)).any (·.1) = false := by rfl) :
    PE X (.Call (.Name x q) (e :: es) [] pos) (tCall (sp p) [] E0 t) := by
  refine ⟨fun pins s σ H Q I h => ?_⟩
  refine wpAny_Call_Name_kw (ld_glob I hg hm ?_ hdb)
  refine PySem.W.callWith_K (h₀ := X.base) I.ok.mod.kin hk (thn (ha.run pos pins s σ H _ I h) fun us s1 ⟨vs, H1, I1, r, q0⟩ => ⟨I1.kIn, ?_⟩) he hpl
  have q : sp p vs H1 Q E0 := by
    have q1 : sp p (vs ++ []) H1 Q E0 := q0
    rw [List.append_nil] at q1
    exact q1
  have hl : us.length = ps.length := by
    rw [← r.length]
    exact F.len _ _ _ _ _ q
  have b := hb s1 us I1.kIn (by rw [List.append_nil]; exact hl)
  rw [List.append_nil] at b
  have P1 := I1.pin p (List.mem_append_left _ hp)
  have hpin : PinOk X.stack H1 s1 p := ⟨P1.1, P1.2.1, fun hm => (List.mem_cons.mp (I1.stkSub p.1 hm)).elim P1.2.2.1 P1.2.2.2.1, P1.2.2.2.2⟩
  refine wpAny_call (codeAny_mono (F.run X.A X.stack s1 H1 ⟨us, []⟩ us vs Q E0 p hr hpin I1.env0 b r q) fun r s' hq => ?_)
  cases r with
  | error e => exact False.elim hq
  | ok fl =>
    cases fl with
    | ret u => exact I1.after hq
    | next => exact False.elim hq
    | brk => exact False.elim hq
    | cont => exact False.elim hq
end
end KX
/-! A def within a def, handed out with what it captured, called elsewhere. -/
namespace KX
open PySem PySem.Spec PyProof.Rows L2 NdefX LamX
/-- a cell that holds v -/
def CellO (c : Addr) (v : V) : HO := .ext fun h => ∃ u, RelV v u ∧ h.IsCell c (some u)
theorem cellO_ok {P : Program} {w : World} {H : Hp} {h : Heap} {c : Addr} {v : V} {u : Value} (r : RelV v u) (z : h.IsCell c (some u)) : ObjOk P w H h c (CellO c v) := by
  obtain ⟨o, e, d⟩ := z
  refine ⟨⟨u, r, o, e, d⟩, ⟨o, e⟩, ?_⟩
  rintro h1 h2 ⟨u', r', o', e', d'⟩ k
  exact ⟨u', r', o', k _ e', d'⟩
theorem cellO_at {P : Program} {w : World} {H : Hp} {h : Heap} {c : Addr} {v : V} (ok : HOk P w H h) (e : H c = some (CellO c v)) : ∃ u, RelV v u ∧ h.IsCell c (some u) := by
  obtain ⟨z, _, _⟩ := ok c _ e
  exact z
theorem ext_own {φ : Heap → Prop} {x : Addr} : (HO.ext φ) ≠ .own x := fun z => nomatch z
theorem ext_tup {φ : Heap → Prop} {xs : List V} : (HO.ext φ) ≠ .tup xs := fun z => nomatch z
theorem hok_del {P : Program} {w : World} {H : Hp} {h : Heap} {c : Addr} {φ : Heap → Prop} (ok : HOk P w H h) (e : H c = some (.ext φ)) : HOk P w (del H c) h := by
  intro a u q
  have ne : a ≠ c := fun z => by
    rw [z, del_same] at q
    cases q
  rw [del_ne ne] at q
  refine (ok a u q).stay (fun b v _ z => z) (fun b z => ?_) fun b xs z => ?_
  · rw [del_ne (fun y => by rw [y, e] at z; cases z)]
    exact z
  · rw [del_ne (fun y => by rw [y, e] at z; cases z)]
    exact z
theorem hok_put {P : Program} {w : World} {H : Hp} {h : Heap} {c : Addr} {φ : Heap → Prop} (ok : HOk P w H h) (n : H c = none) (new : ∀ H', ObjOk P w H' h c (.ext φ)) : HOk P w (upd H c (.ext φ)) h := by
  intro a u q
  by_cases ne : a = c
  · rw [ne, upd_same] at q
    cases q
    rw [ne]
    exact new _
  · rw [upd_ne ne] at q
    refine (ok a u q).stay (fun b v _ z => z) (fun b z => ?_) fun b xs z => ?_
    · rw [upd_ne (ne_of_none z n)]
      exact z
    · rw [upd_ne (ne_of_none z n)]
      exact z
theorem upd_del {H : Hp} {c : Addr} {o : HO} (e : H c = some o) : upd (del H c) c o = H := by
  funext b
  by_cases h : b = c
  · rw [h, upd_same, e]
  · rw [upd_ne h, del_ne h]
/-! ### what may be called -/
def CallAt (P : Program) (w : World) (K : PySem.W.Frag) (mg : Str → Option Value) (base : Heap) (k : Nat) (f : Addr) (H : Hp) (sp : Sp) : Prop :=
  (∃ F, H f = some (FnO f F)) ∧ ∀ (X : Cx), X.prog = P → X.w = w → X.K = K → X.mg = mg → X.base = base → ∀ (pins : List (Addr × Obj)) (s : Shared) (σ : L2.St) (us : List Value) (vs : List V) (Q : VK),
    Room k X.A → L2.Inv X pins σ H s → Vals vs us → sp vs H Q E0 → wpAny (model X.prog X.w) X.A (call (.ref f) us) (EP X pins σ Q) X.xe s
theorem callAt_cell {P : Program} {w : World} {K : PySem.W.Frag} {mg : Str → Option Value} {base : Heap} {k : Nat} {f c : Addr} {F : NF} {ps : List Str} {y : Str} {H : Hp} {v : V} {sp : Sp} {spN : List (Option V) → Sp}
    (Fn : NOk P w K mg base CX0 k f F ps [y] spN) (hf : H f = some (FnO f F)) (hc : H F.c = some (CodeO F.c F.qual)) (hcl : F.cl.lookup y = some c) (only : ∀ z d, F.cl.lookup z = some d → z = y) (hv : H c = some (CellO c v))
    (nf : c ≠ f) (nc : c ≠ F.c) (hsp : ∀ vs Q, sp vs H Q E0 → spN [some v] vs (del H c) (fun u H' => Q u (upd H' c (CellO c v))) E0) : CallAt P w K mg base k f H sp := by
  refine ⟨⟨F, hf⟩, ?_⟩
  intro X hP hw hK hmg hb pins s σ us vs Q hr I rv q
  subst hP hw hK hmg hb
  obtain ⟨u0, r0, z0⟩ := cellO_at I.hok hv
  have e0 := I.env0
  have hok0 : HOk X.prog X.w (del H c) s.heap := hok_del I.hok hv
  have e1 : Env0 X.prog X.w X.K X.mg X.base X.A X.stack s (del H c) :=
    ⟨e0.frames, e0.mod, fun b o e => ⟨(e0.bs b o e).1, by
      by_cases h : b = c
      · rw [h]; exact del_same
      · rw [del_ne h]; exact (e0.bs b o e).2⟩, e0.bsz, e0.funs, fun b hb => by
      by_cases h : b = c
      · rw [h]; exact del_same
      · rw [del_ne h]; exact e0.frf b hb, hok0, e0.bare⟩
  have cnf : c ∉ frs X.stack := fun m => by
    have z := I.stkFree c m
    rw [hv] at z
    cases z
  have cells : CellsAt F.cl [y] [some v] s.heap (del H c) := by
    refine ⟨rfl, fun z d e => ?_, fun a b d e1 e2 => (only a d e1).trans (only b d e2).symm, fun i z e => ?_⟩
    · obtain rfl := only z d e
      rw [hcl] at e
      cases e
      exact ⟨del_same, _, z0⟩
    · cases i with
      | zero =>
        have ez : y = z := Option.some.inj e
        subst ez
        refine ⟨c, hcl, fun v' ev => ?_⟩
        have ev' : v = v' := Option.some.inj (Option.some.inj ev)
        subst ev'
        exact ⟨u0, r0, z0⟩
      | succ i => exact absurd e (by simp)
  have fin := Fn.run X.A X.stack s (del H c) us vs [some v] _ E0 hr e1 (by rw [del_ne (Ne.symm nf)]; exact hf) (by rw [del_ne (Ne.symm nc)]; exact hc) cells rv (hsp vs Q q)
  refine wpAny_call (codeAny_mono fin fun r s' hq => ?_)
  cases r with
  | error e => exact False.elim hq
  | ok fl =>
    cases fl with
    | next => exact False.elim hq
    | brk => exact False.elim hq
    | cont => exact False.elim hq
    | ret u =>
      obtain ⟨x, H', os, bare, un, hok', rx, q'⟩ := hq
      obtain ⟨oc, hoc, hdc⟩ := id z0
      have keepC : s'.heap.get? c = some oc := un.keep c oc hoc del_same cnf (by simp)
      have freeC : H' c = none := un.free c oc hoc del_same (by simp)
      have ok2 : HOk X.prog X.w (upd H' c (CellO c v)) s'.heap := hok_put hok' freeC fun H'' => cellO_ok r0 ⟨oc, keepC, hdc⟩
      have nC : ∀ {b : Addr}, H b = none → b ≠ c := fun {b} n z => by
        rw [z, hv] at n
        cases n
      have un2 : Un (frs X.stack) [] H (upd H' c (CellO c v)) s.heap s'.heap := {
        keep := fun b o g n hb hx => un.keep b o g (by rw [del_ne (nC n)]; exact n) hb hx
        slot := fun b o g n hb hx => un.slot b o g (by rw [del_ne (nC n)]; exact n) hb hx
        free := fun b o g n hx => by rw [upd_ne (nC n)]; exact un.free b o g (by rw [del_ne (nC n)]; exact n) hx
        there := un.there
        tups := fun b xs g => by
          have ne : b ≠ c := fun z => by rw [z, hv] at g; cases g
          rw [upd_ne ne]
          exact un.tups b xs (by rw [del_ne ne]; exact g)
        frzs := fun b o xs g => by
          have ne : b ≠ c := fun z => by rw [z, hv] at g; cases g
          rw [upd_ne ne]
          exact un.frzs b o xs (by rw [del_ne ne]; exact g)
        tbls := fun b xs g => by
          have ne : b ≠ c := fun z => by rw [z, hv] at g; cases g
          rw [upd_ne ne]
          exact un.tbls b xs (by rw [del_ne ne]; exact g) }
      exact I.after ⟨x, _, os, bare, un2, ok2, rx, q'⟩
/-- f(..), f a name that holds what may be called -/
def tCallF (P : Program) (w : World) (K : PySem.W.Frag) (mg : Str → Option Value) (base : Heap) (k i : Nat) (t : TA) : TE := fun σ H Q => ∃ f, σ[i]? = some (some (.ref f)) ∧ (∃ F, H f = some (FnO f F)) ∧ t σ H fun vs H1 => ∃ sp, CallAt P w K mg base k f H1 sp ∧ sp vs H1 Q E0
theorem pe_callF {X : Cx} {i k : Nat} {x : Str} {p pos : Pos} {e : Expr} {es : List Expr} {t : TA} (hr : Room k X.A) (hN : X.N[i]? = some x) (hv : Vis X.env.scope x) (ha : PA X (e :: es) t)
    (hd : (x == ("__debug__" : Str)) = false := by decide) (hcd : (x == ("__classdict__" : Str)) = false := by decide)
    (he : starEach (e :: es) X.env = (false, eval e X.env) :: starEach es X.env := by rfl) (hpl : (backTo pos (starEach es X.env)).any (·.1) = false := by rfl) :
    PE X (.Call (.Name x p) (e :: es) [] pos) (tCallF X.prog X.w X.K X.mg X.base k i t) := by
  refine ⟨fun pins s σ H Q I h => ?_⟩
  obtain ⟨f, hs, ⟨F, hf⟩, ht⟩ := h
  refine wpAny_Call_Name_kw (thn ((pe_var (pos := p) hN hv hd hcd).run pins s σ H (fun v H1 => v = .ref f ∧ H1 = H) I ⟨.ref f, hs, rfl, rfl⟩) fun u s1 ⟨v, H1, I1, r1, q1⟩ => ?_)
  obtain ⟨ev, eH⟩ := q1
  subst ev
  rw [eH] at I1
  obtain rfl : u = Value.ref f := r1
  refine PySem.W.callWith_F (first := []) (fnAt_of I1 hf) (thn (ha.run pos pins s1 σ H _ I1 ht) fun us s2 ⟨vs, H2, I2, r, sp, ⟨⟨F2, hf2⟩, run⟩, q⟩ => ⟨fnAt_of I2 hf2, ?_⟩) he hpl
  exact run X rfl rfl rfl rfl rfl pins s2 σ us vs Q hr I2 r q
/-! ### a def whose end is told by its state: a statement, then return e -/
theorem run_ret2 {X : Cx} {st1 : Stmt} {e1 : Expr} {rp : Pos} {t : TS} {te : TE} {G : L2.St → V → Hp → Prop} {pins : List (Addr × Obj)} {s : Shared} {σ : L2.St} {H : Hp} (ht : PS X st1 t) (hte : PE X e1 te) (I : L2.Inv X pins σ H s)
    (h : t { nx := fun σ H' => te σ H' fun v H1 => G σ v H1, rt := fun _ _ => False, bk := fun _ _ => False, ct := fun _ _ => False } σ H) :
    wpAny (model X.prog X.w) X.A (execs [st1, .Return (some e1) rp] X.env) (fun fl s' => ∃ u v σ' H', fl = .ret u ∧ L2.Inv X pins σ' H' s' ∧ RelV v u ∧ G σ' v H') X.xe s := by
  refine wpAny_execs_cons (thn (ht.run pins s σ H _ I h) fun fl s1 q => ?_)
  cases fl with
  | next =>
    obtain ⟨σ', H', J, q⟩ := q
    refine wpAny_execs_cons (wpAny_Return_some (thn (hte.run pins s1 σ' H' _ J q) fun u s2 ⟨v, H2, J2, r2, q2⟩ => ?_))
    exact ⟨u, v, σ', H2, rfl, J2, r2, q2⟩
  | ret u =>
    obtain ⟨_, _, _, _, _, q⟩ := q
    exact False.elim q
  | brk =>
    obtain ⟨_, _, _, q⟩ := q
    exact False.elim q
  | cont =>
    obtain ⟨_, _, _, q⟩ := q
    exact False.elim q
theorem fn_ofC {P : Program} {w : World} {K : PySem.W.Frag} {mg : Str → Option Value} {base : Heap} {k : Nat} {x qual : Str} {st st1 : Stmt} {e1 : Expr} {rp : Pos} {f : Addr} {fd : FuncData} {N ps : List Str} {sp : Sp} (F : Fun K x qual st f fd) (S : FnScope N ps (defScope st))
    (hb : defBody st = [st1, .Return (some e1) rp]) (len : ∀ vs H Q E, sp vs H Q E → vs.length = ps.length)
    (hbody : ∀ (cdv : Value) (A : Around) (outer : List Env) (s : Shared) (H : Hp) (vs : List V) (Q : VK) (E : XK), fd.code = cdv → PySem.W.codeIn K cdv qual = true →
      Room k (A.deeper (envOfC qual (defScope st) s.heap.objs.size f cdv)) → sp vs H Q E →
      ∃ (t : TS) (te : TE) (G : L2.St → V → Hp → Prop), PS (cxOf CX0 P w K mg base N qual (defScope st) f cdv A outer s H E) st1 t ∧ PE (cxOf CX0 P w K mg base N qual (defScope st) f cdv A outer s H E) e1 te ∧
        t { nx := fun σ H' => te σ H' fun v H1 => G σ v H1, rt := fun _ _ => False, bk := fun _ _ => False, ct := fun _ _ => False } (start N vs) H ∧
        ∀ σ H' s' v u, L2.Inv (cxOf CX0 P w K mg base N qual (defScope st) f cdv A outer s H E) [] σ H' s' → RelV v u → G σ v H' → CE outer P w H s Q u s') :
    FnOk P w K mg base CX0 (k + 1) f fd ps sp := by
  obtain ⟨oc, od, kV, doc, pm, an, cdv, ct, osl, rfl, lk, hcd⟩ := F.ex
  refine ⟨len, fun A outer s H args us vs Q E hr e0 hbd r hsp => ?_⟩
  have hl := len _ _ _ _ hsp
  have KX : K.In s.heap := e0.mod.kin.keeps fun b o e => (e0.bs b o e).1
  have lim : s.heap.NoLimit := e0.mod.nolimit.keeps fun b o e => (e0.bs b o e).1
  have hkind : ∀ y ∈ ps.zip us, (defScope st).names.lookup y.1 = some .local ∨ ((defScope st).names.lookup y.1 = some .cell ∧ ((cellsFrom (s.heap.objs.size + 1) (defScope st).names []).lookup y.1).isSome = true) := by
    rintro ⟨n, v⟩ hy
    rcases S.par n (List.of_mem_zip hy).1 with q | q
    · exact .inl q
    · exact .inr ⟨q, PySem.W.cellsFrom_some _ _ _ (.inl q)⟩
  refine codeAny_call_function hr.depth (KX _ _ lk) rfl S.co S.gen rfl (PySem.W.codeRec_of KX hcd) (hbd _ _ _ _ ?_)
  refine wpAny_newFunctionEnv_cells S.kind hkind fun env he s1 x => ?_
  subst he
  refine ⟨lim.keeps x.toInCall.keep, codeAny_func ?_⟩
  obtain ⟨t, te, G, ht, hte, hq, fin⟩ := hbody cdv A outer s H vs Q E rfl hcd (hr.deeper _) hsp
  have I : L2.Inv (cxOf CX0 P w K mg base N qual (defScope st) f cdv A outer s H E) [] (start N vs) H s1 := inv_start S hr.hd e0 hl r x
  have z := run_ret2 (rp := rp) ht hte I hq
  rw [← hb] at z
  refine wpAny_mono z (fun fl s' hs => ?_) fun e s' hs => hs
  obtain ⟨u, v, σ', H', rfl, J, rv, q⟩ := hs
  exact fin σ' H' s' v u J rv q
end KX
/-! Turns of loops and comprehensions, whatever a turn asks. -/
namespace KX
open PySem PySem.Spec PyProof.Rows L2
theorem op_catK {X : Cx} {K : PySem.W.Frag} (e : X.K = K) : OpR X (binaryOp .Add) (rCatA K) := e ▸ op_catA
theorem op_repK {X : Cx} {K : PySem.W.Frag} (e : X.K = K) : OpR X (binaryOp .Mult) (rRepA K) := e ▸ op_repA
/-- turns over a list -/
theorem w_list {K : PySem.W.Frag} {a : Addr} {xs : List V} {F : V → Hp → (Hp → Prop) → Prop} {H0 : Hp} {Qd : Hp → Prop} (Pv : Nat → Hp → Prop) (h0 : Pv 0 H0) (hl : ∀ i H, i ≤ xs.length → Pv i H → SqL K H a xs)
    (hs : ∀ i x H, xs[i]? = some x → Pv i H → F x H (Pv (i + 1))) (hd : ∀ H, Pv xs.length H → Qd H) :
    ∃ W : Nat → Nat → Hp → Prop, (∃ m, W 0 m H0) ∧ ∀ i m H, W i m H →
      ((Itl K a).stop i H ∧ Qd H) ∨ ((Itl K a).go i H ∧ ∃ Nx : Hp → Prop, (∀ H', Nx H' → ∃ m', m' < m ∧ W (i + 1) m' H') ∧ ∀ x H', (Itl K a).yld i H x H' → F x H' Nx) := by
  refine ⟨fun i m H => m = xs.length - i ∧ i ≤ xs.length ∧ Pv i H, ⟨xs.length, by simp, Nat.zero_le _, h0⟩, ?_⟩
  rintro i m H ⟨rfl, hi, p⟩
  have q := hl i H hi p
  by_cases hlt : i < xs.length
  · have go : (Itl K a).go i H := ⟨xs, xs[i], q, by simp [hlt]⟩
    refine .inr ⟨go, Pv (i + 1), fun H' p' => ⟨xs.length - (i + 1), by omega, rfl, hlt, p'⟩, fun x H' y => ?_⟩
    obtain ⟨e, y⟩ := y
    subst e
    exact hs i x _ (y xs q) p
  · obtain rfl : i = xs.length := by omega
    exact .inl ⟨⟨xs, q, Nat.le_refl _⟩, hd H p⟩
/-- turns over a tuple -/
theorem w_tup {K : PySem.W.Frag} {a : Addr} {xs : List V} {F : V → Hp → (Hp → Prop) → Prop} {H0 : Hp} {Qd : Hp → Prop} (Pv : Nat → Hp → Prop) (h0 : Pv 0 H0) (hl : ∀ i H, i ≤ xs.length → Pv i H → SqT K H a xs)
    (hs : ∀ i x H, xs[i]? = some x → Pv i H → F x H (Pv (i + 1))) (hd : ∀ H, Pv xs.length H → Qd H) :
    ∃ W : Nat → Nat → Hp → Prop, (∃ m, W 0 m H0) ∧ ∀ i m H, W i m H →
      ((Itt K a).stop i H ∧ Qd H) ∨ ((Itt K a).go i H ∧ ∃ Nx : Hp → Prop, (∀ H', Nx H' → ∃ m', m' < m ∧ W (i + 1) m' H') ∧ ∀ x H', (Itt K a).yld i H x H' → F x H' Nx) := by
  refine ⟨fun i m H => m = xs.length - i ∧ i ≤ xs.length ∧ Pv i H, ⟨xs.length, by simp, Nat.zero_le _, h0⟩, ?_⟩
  rintro i m H ⟨rfl, hi, p⟩
  have q := hl i H hi p
  by_cases hlt : i < xs.length
  · have go : (Itt K a).go i H := ⟨xs, xs[i], q, by simp [hlt]⟩
    refine .inr ⟨go, Pv (i + 1), fun H' p' => ⟨xs.length - (i + 1), by omega, rfl, hlt, p'⟩, fun x H' y => ?_⟩
    obtain ⟨e, y⟩ := y
    subst e
    exact hs i x _ (y xs q) p
  · obtain rfl : i = xs.length := by omega
    exact .inl ⟨⟨xs, q, Nat.le_refl _⟩, hd H p⟩
/-- turns over a range -/
theorem w_rng {lo : Int} {n : Nat} {F : V → Hp → (Hp → Prop) → Prop} {H0 : Hp} {Qd : Hp → Prop} (Pv : Nat → Hp → Prop) (h0 : Pv 0 H0)
    (hs : ∀ (i : Nat) H, i < n → Pv i H → F (.int (lo + i)) H (Pv (i + 1))) (hd : ∀ H, Pv n H → Qd H) :
    ∃ W : Nat → Nat → Hp → Prop, (∃ m, W 0 m H0) ∧ ∀ i m H, W i m H →
      ((Itr lo n).stop i H ∧ Qd H) ∨ ((Itr lo n).go i H ∧ ∃ Nx : Hp → Prop, (∀ H', Nx H' → ∃ m', m' < m ∧ W (i + 1) m' H') ∧ ∀ x H', (Itr lo n).yld i H x H' → F x H' Nx) := by
  refine ⟨fun i m H => m = n - i ∧ i ≤ n ∧ Pv i H, ⟨n, by simp, Nat.zero_le _, h0⟩, ?_⟩
  rintro i m H ⟨rfl, hi, p⟩
  by_cases hlt : i < n
  · refine .inr ⟨hlt, Pv (i + 1), fun H' p' => ⟨n - (i + 1), by omega, rfl, hlt, p'⟩, fun x H' y => ?_⟩
    obtain ⟨e, y⟩ := y
    subst e y
    exact hs i _ hlt p
  · obtain rfl : i = n := by omega
    exact .inl ⟨Nat.le_refl _, hd H p⟩
/-- a for over a dict's keys that are tuples (under its lock) -/
theorem f_keysT {d : Addr} {o : Obj} {kvs : List (List Key × V)} {F : V → L2.St → Hp → (L2.St → Hp → Prop) → Prop} {σ : L2.St} {H0 : Hp} {Qd : L2.St → Hp → Prop} (Pv : Nat → L2.St → Hp → Prop) (h0 : Pv 0 σ H0) (hl : ∀ i σ H, i ≤ kvs.length → Pv i σ H → H d = some (.frz o (.dT kvs)))
    (hs : ∀ i k v q σ H, kvs[i]? = some (k, v) → H q = some (.tup (k.map kV)) → Pv i σ H → F (.ref q) σ H (Pv (i + 1))) (hd : ∀ σ H, Pv kvs.length σ H → Qd σ H) :
    ∃ W : Nat → Nat → L2.St → Hp → Prop, (∃ m, W 0 m σ H0) ∧ ∀ i m σ H, W i m σ H →
      ((Itkt d o kvs).stop i H ∧ Qd σ H) ∨ ((Itkt d o kvs).go i H ∧ ∃ N : L2.St → Hp → Prop, (∀ σ' H', N σ' H' → ∃ m', m' < m ∧ W (i + 1) m' σ' H') ∧ ∀ x H', (Itkt d o kvs).yld i H x H' → F x σ H' N) := by
  refine ⟨fun i m σ H => m = kvs.length - i ∧ i ≤ kvs.length ∧ Pv i σ H, ⟨kvs.length, by simp, Nat.zero_le _, h0⟩, ?_⟩
  rintro i m σ H ⟨rfl, hi, p⟩
  have q := hl i σ H hi p
  by_cases hlt : i < kvs.length
  · refine .inr ⟨⟨q, hlt⟩, Pv (i + 1), fun σ' H' p' => ⟨kvs.length - (i + 1), by omega, rfl, hlt, p'⟩, fun x H' y => ?_⟩
    obtain ⟨e, k, v, c, e1, e2, e3⟩ := y
    subst e e2
    exact hs i k v c σ _ e1 e3 p
  · obtain rfl : i = kvs.length := by omega
    exact .inl ⟨⟨q, Nat.le_refl _⟩, hd σ H p⟩
/-- a for over a list, over a tuple, over a range, whatever a turn asks -/
theorem f_list {K : PySem.W.Frag} {a : Addr} {xs : List V} {F : V → L2.St → Hp → (L2.St → Hp → Prop) → Prop} {σ : L2.St} {H0 : Hp} {Qd : L2.St → Hp → Prop} (Pv : Nat → L2.St → Hp → Prop) (h0 : Pv 0 σ H0) (hl : ∀ i σ H, i ≤ xs.length → Pv i σ H → SqL K H a xs)
    (hs : ∀ i x σ H, xs[i]? = some x → Pv i σ H → F x σ H (Pv (i + 1))) (hd : ∀ σ H, Pv xs.length σ H → Qd σ H) :
    ∃ W : Nat → Nat → L2.St → Hp → Prop, (∃ m, W 0 m σ H0) ∧ ∀ i m σ H, W i m σ H →
      ((Itl K a).stop i H ∧ Qd σ H) ∨ ((Itl K a).go i H ∧ ∃ N : L2.St → Hp → Prop, (∀ σ' H', N σ' H' → ∃ m', m' < m ∧ W (i + 1) m' σ' H') ∧ ∀ x H', (Itl K a).yld i H x H' → F x σ H' N) := by
  refine ⟨fun i m σ H => m = xs.length - i ∧ i ≤ xs.length ∧ Pv i σ H, ⟨xs.length, by simp, Nat.zero_le _, h0⟩, ?_⟩
  rintro i m σ H ⟨rfl, hi, p⟩
  have q := hl i σ H hi p
  by_cases hlt : i < xs.length
  · have go : (Itl K a).go i H := ⟨xs, xs[i], q, by simp [hlt]⟩
    refine .inr ⟨go, Pv (i + 1), fun σ' H' p' => ⟨xs.length - (i + 1), by omega, rfl, hlt, p'⟩, fun x H' y => ?_⟩
    obtain ⟨e, y⟩ := y
    subst e
    exact hs i x σ _ (y xs q) p
  · obtain rfl : i = xs.length := by omega
    exact .inl ⟨⟨xs, q, Nat.le_refl _⟩, hd σ H p⟩
theorem f_tup {K : PySem.W.Frag} {a : Addr} {xs : List V} {F : V → L2.St → Hp → (L2.St → Hp → Prop) → Prop} {σ : L2.St} {H0 : Hp} {Qd : L2.St → Hp → Prop} (Pv : Nat → L2.St → Hp → Prop) (h0 : Pv 0 σ H0) (hl : ∀ i σ H, i ≤ xs.length → Pv i σ H → SqT K H a xs)
    (hs : ∀ i x σ H, xs[i]? = some x → Pv i σ H → F x σ H (Pv (i + 1))) (hd : ∀ σ H, Pv xs.length σ H → Qd σ H) :
    ∃ W : Nat → Nat → L2.St → Hp → Prop, (∃ m, W 0 m σ H0) ∧ ∀ i m σ H, W i m σ H →
      ((Itt K a).stop i H ∧ Qd σ H) ∨ ((Itt K a).go i H ∧ ∃ N : L2.St → Hp → Prop, (∀ σ' H', N σ' H' → ∃ m', m' < m ∧ W (i + 1) m' σ' H') ∧ ∀ x H', (Itt K a).yld i H x H' → F x σ H' N) := by
  refine ⟨fun i m σ H => m = xs.length - i ∧ i ≤ xs.length ∧ Pv i σ H, ⟨xs.length, by simp, Nat.zero_le _, h0⟩, ?_⟩
  rintro i m σ H ⟨rfl, hi, p⟩
  have q := hl i σ H hi p
  by_cases hlt : i < xs.length
  · have go : (Itt K a).go i H := ⟨xs, xs[i], q, by simp [hlt]⟩
    refine .inr ⟨go, Pv (i + 1), fun σ' H' p' => ⟨xs.length - (i + 1), by omega, rfl, hlt, p'⟩, fun x H' y => ?_⟩
    obtain ⟨e, y⟩ := y
    subst e
    exact hs i x σ _ (y xs q) p
  · obtain rfl : i = xs.length := by omega
    exact .inl ⟨⟨xs, q, Nat.le_refl _⟩, hd σ H p⟩
theorem f_rng {lo : Int} {n : Nat} {F : V → L2.St → Hp → (L2.St → Hp → Prop) → Prop} {σ : L2.St} {H0 : Hp} {Qd : L2.St → Hp → Prop} (Pv : Nat → L2.St → Hp → Prop) (h0 : Pv 0 σ H0)
    (hs : ∀ (i : Nat) σ H, i < n → Pv i σ H → F (.int (lo + i)) σ H (Pv (i + 1))) (hd : ∀ σ H, Pv n σ H → Qd σ H) :
    ∃ W : Nat → Nat → L2.St → Hp → Prop, (∃ m, W 0 m σ H0) ∧ ∀ i m σ H, W i m σ H →
      ((Itr lo n).stop i H ∧ Qd σ H) ∨ ((Itr lo n).go i H ∧ ∃ N : L2.St → Hp → Prop, (∀ σ' H', N σ' H' → ∃ m', m' < m ∧ W (i + 1) m' σ' H') ∧ ∀ x H', (Itr lo n).yld i H x H' → F x σ H' N) := by
  refine ⟨fun i m σ H => m = n - i ∧ i ≤ n ∧ Pv i σ H, ⟨n, by simp, Nat.zero_le _, h0⟩, ?_⟩
  rintro i m σ H ⟨rfl, hi, p⟩
  by_cases hlt : i < n
  · refine .inr ⟨hlt, Pv (i + 1), fun σ' H' p' => ⟨n - (i + 1), by omega, rfl, hlt, p'⟩, fun x H' y => ?_⟩
    obtain ⟨e, y⟩ := y
    subst e y
    exact hs i σ _ hlt p
  · obtain rfl : i = n := by omega
    exact .inl ⟨Nat.le_refl _, hd σ H p⟩
end KX
/-! Vote rules on tuples 0 .. top: the program's search and the law's search agree. Plain lists, no program. -/
namespace M17
def rng (a b : Int) : List Int := (List.range (b - a).toNat).map fun (i : Nat) => a + (i : Int)
theorem mem_rng {a b x : Int} : x ∈ rng a b ↔ a ≤ x ∧ x < b := by
  unfold rng
  rw [List.mem_map]
  constructor
  · rintro ⟨i, hi, rfl⟩
    have := List.mem_range.mp hi
    omega
  · rintro ⟨h1, h2⟩
    exact ⟨(x - a).toNat, List.mem_range.mpr (by omega), by omega⟩
theorem rng_len (a b : Int) : (rng a b).length = (b - a).toNat := by
  unfold rng
  rw [List.length_map, List.length_range]
theorem rng_get {a b : Int} {i : Nat} (h : i < (b - a).toNat) : (rng a b)[i]? = some (a + (i : Int)) := by
  unfold rng
  rw [List.getElem?_map, List.getElem?_range h]
  rfl
theorem rng_nodup (a b : Int) : (rng a b).Nodup := by
  unfold rng
  refine List.Pairwise.map _ (fun x y (h : x ≠ y) (e : a + (x : Int) = a + (y : Int)) => h ?_) List.nodup_range
  omega
theorem rng_succ {a b : Int} (h : a ≤ b) : rng a (b + 1) = rng a b ++ [b] := by
  unfold rng
  have e : (b + 1 - a).toNat = (b - a).toNat + 1 := by omega
  rw [e, List.range_succ, List.map_append]
  congr 1
  show [a + (((b - a).toNat : Nat) : Int)] = [b]
  congr 1
  omega
theorem rng_nil {a b : Int} (h : b ≤ a) : rng a b = [] := by
  unfold rng
  have e : (b - a).toNat = 0 := by omega
  rw [e]
  rfl
theorem rng_filter {lo hi : Int} (h0 : 0 ≤ lo) : (rng 0 hi).filter (fun x => decide (lo ≤ x)) = rng lo hi := by
  have key : ∀ n : Nat, (rng 0 (n : Int)).filter (fun x => decide (lo ≤ x)) = rng lo (n : Int) := by
    intro n
    induction n with
    | zero => rw [rng_nil (by omega), rng_nil (by omega)]; rfl
    | succ n ih =>
      have e : ((n + 1 : Nat) : Int) = (n : Int) + 1 := by omega
      rw [e, rng_succ (by omega), List.filter_append, ih]
      by_cases h : lo ≤ (n : Int)
      · rw [rng_succ h]
        congr 1
        rw [List.filter_cons, if_pos (by simpa using h)]
        rfl
      · rw [rng_nil (by omega), rng_nil (by omega), List.filter_cons, if_neg (by simpa using h)]
        rfl
  by_cases hn : 0 ≤ hi
  · have := key hi.toNat
    rw [show ((hi.toNat : Nat) : Int) = hi by omega] at this
    exact this
  · rw [rng_nil (by omega), rng_nil (by omega)]
    rfl
/-! ### rows -/
def stepRows (lo hi : Int) (rows : List (List Int)) : List (List Int) := rows.flatMap fun r => (rng lo hi).map fun x => r ++ [x]
def rowsFrom (least : List Int) (top : Int) : List (List Int) := least.foldl (fun rows lo => stepRows lo (top + 1) rows) [[]]
def rowsOf (j : Nat) (top : Int) : List (List Int) := rowsFrom (List.replicate j 0) top
theorem rowsFrom_snoc (s : List Int) (lo top : Int) : rowsFrom (s ++ [lo]) top = stepRows lo (top + 1) (rowsFrom s top) := by
  unfold rowsFrom
  rw [List.foldl_append]
  rfl
theorem rowsOf_succ (j : Nat) (top : Int) : rowsOf (j + 1) top = stepRows 0 (top + 1) (rowsOf j top) := by
  unfold rowsOf
  rw [List.replicate_succ', rowsFrom_snoc]
theorem mem_step {lo hi : Int} {rows : List (List Int)} {t : List Int} : t ∈ stepRows lo hi rows ↔ ∃ r x, r ∈ rows ∧ lo ≤ x ∧ x < hi ∧ t = r ++ [x] := by
  unfold stepRows
  rw [List.mem_flatMap]
  constructor
  · rintro ⟨r, hr, h⟩
    obtain ⟨x, hx, rfl⟩ := List.mem_map.mp h
    obtain ⟨h1, h2⟩ := mem_rng.mp hx
    exact ⟨r, x, hr, h1, h2, rfl⟩
  · rintro ⟨r, x, hr, h1, h2, rfl⟩
    exact ⟨r, hr, List.mem_map.mpr ⟨x, mem_rng.mpr ⟨h1, h2⟩, rfl⟩⟩
def InBox (j : Nat) (top : Int) (r : List Int) : Prop := r.length = j ∧ ∀ x ∈ r, 0 ≤ x ∧ x ≤ top
theorem mem_rows {j : Nat} {top : Int} : ∀ {r : List Int}, r ∈ rowsOf j top ↔ InBox j top r := by
  induction j with
  | zero =>
    intro r
    show r ∈ [[]] ↔ _
    rw [List.mem_singleton]
    constructor
    · rintro rfl
      exact ⟨rfl, fun x hx => absurd hx List.not_mem_nil⟩
    · rintro ⟨h, _⟩
      exact List.eq_nil_of_length_eq_zero h
  | succ j ih =>
    intro r
    rw [rowsOf_succ, mem_step]
    constructor
    · rintro ⟨t, x, ht, h1, h2, rfl⟩
      obtain ⟨l, b⟩ := ih.mp ht
      refine ⟨by rw [List.length_append, l]; rfl, fun y hy => ?_⟩
      rcases List.mem_append.mp hy with hy | hy
      · exact b y hy
      · rw [List.mem_singleton.mp hy]
        omega
    · rintro ⟨l, b⟩
      have ne : r ≠ [] := fun z => by rw [z] at l; simp at l
      refine ⟨r.dropLast, r.getLast ne, ih.mpr ⟨by rw [List.length_dropLast, l]; rfl, fun y hy => b y (List.dropLast_subset r hy)⟩, (b _ (List.getLast_mem ne)).1, by have := (b _ (List.getLast_mem ne)).2; omega, (List.dropLast_concat_getLast ne).symm⟩
theorem snoc_inj {a b : List Int} {x y : Int} (h : a ++ [x] = b ++ [y]) : a = b ∧ x = y := by
  have h1 := congrArg List.reverse h
  rw [List.reverse_append, List.reverse_append] at h1
  have h2 : x :: a.reverse = y :: b.reverse := h1
  injection h2 with h3 h4
  exact ⟨List.reverse_inj.mp h4, h3⟩
theorem step_nodup {lo hi : Int} : ∀ {rows : List (List Int)}, rows.Nodup → (stepRows lo hi rows).Nodup
  | [], _ => List.Pairwise.nil
  | r :: rows, h => by
    obtain ⟨h1, h2⟩ := List.nodup_cons.mp h
    show ((rng lo hi).map (fun x => r ++ [x]) ++ stepRows lo hi rows).Nodup
    rw [List.nodup_append]
    refine ⟨List.Pairwise.map _ (fun x y hne e => hne (snoc_inj e).2) (rng_nodup lo hi), step_nodup h2, ?_⟩
    intro a ha b hb e
    obtain ⟨x, _, rfl⟩ := List.mem_map.mp ha
    obtain ⟨t, y, ht, _, _, rfl⟩ := mem_step.mp hb
    exact h1 ((snoc_inj e).1 ▸ ht)
theorem rows_nodup (j : Nat) (top : Int) : (rowsOf j top).Nodup := by
  induction j with
  | zero =>
    show [[]].Nodup
    exact List.nodup_cons.mpr ⟨List.not_mem_nil, List.nodup_nil⟩
  | succ j ih =>
    rw [rowsOf_succ]
    exact step_nodup ih
theorem step_len (lo hi : Int) : ∀ rows : List (List Int), (stepRows lo hi rows).length = rows.length * (hi - lo).toNat
  | [] => by
    show 0 = 0 * (hi - lo).toNat
    rw [Nat.zero_mul]
  | r :: rows => by
    show ((rng lo hi).map (fun x => r ++ [x]) ++ stepRows lo hi rows).length = _
    rw [List.length_append, List.length_map, rng_len, step_len lo hi rows, List.length_cons, Nat.succ_mul, Nat.add_comm]
theorem rows_len (j : Nat) (top : Int) : (rowsOf j top).length = (top + 1).toNat ^ j := by
  induction j with
  | zero => rfl
  | succ j ih =>
    rw [rowsOf_succ, step_len, ih, Nat.pow_succ, Int.sub_zero]
/-! ### below -/
def leB (s t : List Int) : Bool := (s.zip t).all fun p => decide (p.1 ≤ p.2)
theorem leB_snoc {s t : List Int} {a b : Int} (h : s.length = t.length) : leB (s ++ [a]) (t ++ [b]) = (leB s t && decide (a ≤ b)) := by
  unfold leB
  rw [List.zip_append h, List.all_append]
  simp
theorem flat_if {α β : Type} (p : α → Bool) (g : α → List β) : ∀ l : List α, (l.flatMap fun x => if p x = true then g x else []) = (l.filter p).flatMap g
  | [] => rfl
  | a :: l => by
    show (if p a = true then g a else []) ++ (l.flatMap fun x => if p x = true then g x else []) = _
    rw [flat_if p g l, List.filter_cons]
    by_cases h : p a = true
    · rw [if_pos h, if_pos h]
      rfl
    · rw [if_neg h, if_neg h]
      rfl
theorem flat_congr {α β : Type} {g h : α → List β} : ∀ {l : List α}, (∀ x ∈ l, g x = h x) → l.flatMap g = l.flatMap h
  | [], _ => rfl
  | a :: l, e => by
    show g a ++ l.flatMap g = h a ++ l.flatMap h
    rw [e a List.mem_cons_self, flat_congr fun x hx => e x (List.mem_cons_of_mem _ hx)]
theorem filter_flat {α β : Type} (q : β → Bool) (g : α → List β) : ∀ l : List α, (l.flatMap g).filter q = l.flatMap fun x => (g x).filter q
  | [] => rfl
  | a :: l => by
    show (g a ++ l.flatMap g).filter q = (g a).filter q ++ (l.flatMap fun x => (g x).filter q)
    rw [List.filter_append, filter_flat q g l]
theorem snoc_ind {P : List Int → Prop} (h0 : P []) (h1 : ∀ s x, P s → P (s ++ [x])) (s : List Int) : P s := by
  have key : ∀ (n : Nat) (s : List Int), s.length = n → P s := by
    intro n
    induction n with
    | zero =>
      intro s l
      rw [List.eq_nil_of_length_eq_zero l]
      exact h0
    | succ n ih =>
      intro s l
      have ne : s ≠ [] := fun z => by rw [z] at l; simp at l
      rw [← List.dropLast_concat_getLast ne]
      exact h1 _ _ (ih _ (by rw [List.length_dropLast, l]; rfl))
  exact key _ s rfl
theorem from_filter {top : Int} (s : List Int) : (∀ x ∈ s, 0 ≤ x) → rowsFrom s top = (rowsOf s.length top).filter (leB s) := by
  refine snoc_ind (P := fun s => (∀ x ∈ s, 0 ≤ x) → rowsFrom s top = (rowsOf s.length top).filter (leB s)) (fun _ => rfl) (fun s lo ih h => ?_) s
  have h0 : 0 ≤ lo := h lo (List.mem_append_right _ List.mem_cons_self)
  have hs := ih fun x hx => h x (List.mem_append_left _ hx)
  rw [rowsFrom_snoc, List.length_append, show [lo].length = 1 from rfl, rowsOf_succ, hs]
  unfold stepRows
  rw [filter_flat, ← flat_if]
  refine flat_congr fun r hr => ?_
  obtain ⟨l, _⟩ := mem_rows.mp hr
  rw [List.filter_map]
  have e : ((rng 0 (top + 1)).filter ((leB (s ++ [lo])) ∘ fun x => r ++ [x])) = (rng 0 (top + 1)).filter fun x => (leB s r && decide (lo ≤ x)) := by
    congr 1
    funext x
    exact leB_snoc l.symm
  rw [e]
  by_cases c : leB s r = true
  · rw [if_pos c, c]
    have e2 : (rng 0 (top + 1)).filter (fun x => (true && decide (lo ≤ x))) = rng lo (top + 1) := by
      rw [← rng_filter h0]
      congr 1
    rw [e2]
  · rw [if_neg c, Bool.eq_false_iff.mpr c]
    have e2 : (rng 0 (top + 1)).filter (fun x => (false && decide (lo ≤ x))) = [] := by
      rw [List.filter_eq_nil_iff]
      intro a _
      simp
    rw [e2]
    rfl
/-! ### single steps -/
def bump (r : List Int) (k : Nat) : List Int := r.take k ++ [r.getD k 0 + 1] ++ r.drop (k + 1)
theorem bump_at (p q : List Int) (a : Int) : bump (p ++ a :: q) p.length = p ++ (a + 1) :: q := by
  unfold bump
  rw [List.take_left' rfl, List.getD_eq_getElem?_getD, List.getElem?_append_right (Nat.le_refl _), Nat.sub_self]
  have e : (p ++ a :: q).drop (p.length + 1) = q := by
    rw [show p ++ a :: q = (p ++ [a]) ++ q by simp]
    exact List.drop_left' (by simp)
  rw [e]
  simp
def canFall (f : List Int → Int) (rows : List (List Int)) (top : Int) : Bool := rows.any fun r => (List.range r.length).any fun k => decide (r.getD k 0 < top) && decide (f (bump r k) < f r)
theorem mono_of {f : List Int → Int} {j : Nat} {top : Int} (h : canFall f (rowsOf j top) top = false) : ∀ (p one other : List Int), InBox j top (p ++ one) → InBox j top (p ++ other) → one.length = other.length → leB one other = true → f (p ++ one) ≤ f (p ++ other) := by
  have one_step : ∀ (p q : List Int) (a : Int), InBox j top (p ++ a :: q) → a < top → f (p ++ a :: q) ≤ f (p ++ (a + 1) :: q) := by
    intro p q a hb ha
    unfold canFall at h
    rw [List.any_eq_false] at h
    have h1 := h _ (mem_rows.mpr hb)
    rw [Bool.not_eq_true, List.any_eq_false] at h1
    have h2 := h1 p.length (List.mem_range.mpr (by rw [List.length_append]; simp))
    rw [bump_at] at h2
    have e : (p ++ a :: q).getD p.length 0 = a := by
      rw [List.getD_eq_getElem?_getD, List.getElem?_append_right (Nat.le_refl _), Nat.sub_self]
      rfl
    rw [e, Bool.and_eq_true, decide_eq_true_eq, decide_eq_true_eq] at h2
    omega
  have many : ∀ (n : Nat) (p q : List Int) (a b : Int), (b - a).toNat = n → a ≤ b → InBox j top (p ++ a :: q) → b ≤ top → f (p ++ a :: q) ≤ f (p ++ b :: q) := by
    intro n
    induction n with
    | zero =>
      intro p q a b e hab _ _
      rw [show a = b by omega]
      exact Int.le_refl _
    | succ n ih =>
      intro p q a b e hab hb ht
      refine Int.le_trans (one_step p q a hb (by omega)) (ih p q (a + 1) b (by omega) (by omega) ?_ ht)
      obtain ⟨l, m⟩ := hb
      refine ⟨by rw [← l]; simp, fun x hx => ?_⟩
      rcases List.mem_append.mp hx with hx | hx
      · exact m x (List.mem_append_left _ hx)
      · rcases List.mem_cons.mp hx with hx | hx
        · have := m a (List.mem_append_right _ List.mem_cons_self)
          omega
        · exact m x (List.mem_append_right _ (List.mem_cons_of_mem _ hx))
  intro p one
  induction one generalizing p with
  | nil =>
    intro other _ _ l _
    rw [List.eq_nil_of_length_eq_zero l.symm]
    exact Int.le_refl _
  | cons a one ih =>
    intro other h1 h2 l c
    cases other with
    | nil => simp at l
    | cons b other =>
      have c2 : (decide (a ≤ b) && leB one other) = true := c
      rw [Bool.and_eq_true, decide_eq_true_eq] at c2
      have hbt := h2.2 b (List.mem_append_right _ List.mem_cons_self)
      have g1 := many _ p one a b rfl c2.1 h1 hbt.2
      have e1 : p ++ b :: one = (p ++ [b]) ++ one := by simp
      have e2 : p ++ b :: other = (p ++ [b]) ++ other := by simp
      have hmid : InBox j top ((p ++ [b]) ++ one) := by
        refine ⟨by rw [← h1.1]; simp, fun x hx => ?_⟩
        rw [← e1] at hx
        rcases List.mem_append.mp hx with hx | hx
        · exact h1.2 x (List.mem_append_left _ hx)
        · rcases List.mem_cons.mp hx with hx | hx
          · rw [hx]
            exact hbt
          · exact h1.2 x (List.mem_append_right _ (List.mem_cons_of_mem _ hx))
      have g2 := ih (p ++ [b]) other hmid (by rw [← e2]; exact h2) (by simpa using l) c2.2
      rw [e1] at g1
      rw [e2]
      exact Int.le_trans g1 g2
/-! ### the two searches -/
def progFall (f : List Int → Int) (rows : List (List Int)) (top : Int) : Option (List Int × List Int) :=
  if canFall f rows top = true then rows.findSome? fun s => (rowsFrom s top).findSome? fun t => if f t < f s then some (s, t) else none else none
def lawFall (f : List Int → Int) (rows : List (List Int)) : Option (List Int × List Int) :=
  rows.findSome? fun s => rows.findSome? fun t => if f t < f s ∧ leB s t = true then some (s, t) else none
theorem find_filter {α β : Type} (p : α → Bool) (g : α → Option β) : ∀ l : List α, (l.filter p).findSome? g = l.findSome? fun x => if p x = true then g x else none
  | [] => rfl
  | a :: l => by
    rw [List.filter_cons, List.findSome?_cons]
    by_cases h : p a = true
    · rw [if_pos h, if_pos h, List.findSome?_cons, find_filter p g l]
    · rw [if_neg h, if_neg h, find_filter p g l]
theorem find_congr {α β : Type} {g h : α → Option β} : ∀ {l : List α}, (∀ x ∈ l, g x = h x) → l.findSome? g = l.findSome? h
  | [], _ => rfl
  | a :: l, e => by
    rw [List.findSome?_cons, List.findSome?_cons, e a List.mem_cons_self, find_congr fun x hx => e x (List.mem_cons_of_mem _ hx)]
theorem fall_eq (f : List Int → Int) (j : Nat) (top : Int) : progFall f (rowsOf j top) top = lawFall f (rowsOf j top) := by
  unfold progFall lawFall
  by_cases h : canFall f (rowsOf j top) top = true
  · rw [if_pos h]
    refine find_congr fun s hs => ?_
    obtain ⟨l, b⟩ := mem_rows.mp hs
    rw [from_filter s (fun x hx => (b x hx).1), l, find_filter]
    refine find_congr fun t _ => ?_
    by_cases c : leB s t = true
    · rw [if_pos c]
      by_cases d : f t < f s
      · rw [if_pos d, if_pos ⟨d, c⟩]
      · rw [if_neg d, if_neg fun z => d z.1]
    · rw [if_neg c, if_neg fun z => c z.2]
  · rw [if_neg h]
    have h0 := Bool.eq_false_iff.mpr h
    symm
    rw [List.findSome?_eq_none_iff]
    intro s hs
    rw [List.findSome?_eq_none_iff]
    intro t ht
    rw [if_neg]
    rintro ⟨d, c⟩
    have hs' := mem_rows.mp hs
    have ht' := mem_rows.mp ht
    have := mono_of h0 [] s t hs' ht' (hs'.1.trans ht'.1.symm) c
    have z : f s ≤ f t := this
    omega
/-! ### greatest and least -/
def maxI (r : List Int) : Int := match r with
  | [] => 0
  | a :: l => l.foldl max a
theorem foldl_max_mem : ∀ (l : List Int) (a : Int), l.foldl max a ∈ a :: l
  | [], a => List.mem_cons_self
  | b :: l, a => by
    have h := foldl_max_mem l (max a b)
    show l.foldl max (max a b) ∈ a :: b :: l
    rcases List.mem_cons.mp h with h | h
    · rw [h]
      by_cases c : a ≤ b
      · rw [Int.max_eq_right c]
        exact List.mem_cons_of_mem _ List.mem_cons_self
      · rw [Int.max_eq_left (by omega)]
        exact List.mem_cons_self
    · exact List.mem_cons_of_mem _ (List.mem_cons_of_mem _ h)
theorem foldl_max_ge : ∀ (l : List Int) (a : Int), ∀ x ∈ a :: l, x ≤ l.foldl max a
  | [], a, x, hx => by
    rw [List.mem_singleton.mp hx]
    exact Int.le_refl _
  | b :: l, a, x, hx => by
    show x ≤ l.foldl max (max a b)
    have h := foldl_max_ge l (max a b)
    rcases List.mem_cons.mp hx with hx | hx
    · rw [hx]
      exact Int.le_trans (Int.le_max_left a b) (h _ List.mem_cons_self)
    · rcases List.mem_cons.mp hx with hx | hx
      · rw [hx]
        exact Int.le_trans (Int.le_max_right a b) (h _ List.mem_cons_self)
      · exact h x (List.mem_cons_of_mem _ hx)
theorem max_is {r : List Int} {m : Int} (h1 : m ∈ r) (h2 : ∀ y ∈ r, y ≤ m) : m = maxI r := by
  cases r with
  | nil => exact absurd h1 List.not_mem_nil
  | cons a l =>
    have g1 := foldl_max_ge l a m h1
    have g2 := h2 _ (foldl_max_mem l a)
    show m = l.foldl max a
    omega
theorem maxI_mem {r : List Int} (h : r ≠ []) : maxI r ∈ r := by
  cases r with
  | nil => exact absurd rfl h
  | cons a l => exact foldl_max_mem l a
theorem maxI_ge {r : List Int} {x : Int} (h : x ∈ r) : x ≤ maxI r := by
  cases r with
  | nil => exact absurd h List.not_mem_nil
  | cons a l => exact foldl_max_ge l a x h
def addW (r : List Int) (w : Int) : List Int := r.map fun x => x + w
theorem addW_box {j : Nat} {top w : Int} {r : List Int} (h : InBox j top r) (h0 : 0 ≤ w) (h1 : w ≤ top - maxI r) : InBox j top (addW r w) := by
  refine ⟨by unfold addW; rw [List.length_map]; exact h.1, fun x hx => ?_⟩
  obtain ⟨y, hy, rfl⟩ := List.mem_map.mp hx
  have g := maxI_ge hy
  have := h.2 y hy
  omega
def leap (f : List Int → Int) (rows : List (List Int)) (top : Int) : Option (List Int × Int) :=
  rows.findSome? fun t => (rng 1 (top - maxI t + 1)).findSome? fun w => if f (addW t w) > f t + w then some (t, w) else none
def unan (f : List Int → Int) (j : Nat) (top : Int) : Option Int := (rng 0 (top + 1)).find? fun t => decide (f (List.replicate j t) ≠ t)
/-! ### what is answered -/
inductive D where
  | non | int (i : Int) | str (s : String) | tup (l : List D)
def rowD (r : List Int) : D := .tup (r.map D.int)
def fallD : Option (List Int × List Int) → D
  | none => .non
  | some (s, t) => .tup [.str "falls", rowD s, rowD t]
def leapD : Option (List Int × Int) → D
  | none => .non
  | some (t, w) => .tup [.str "leaps", rowD t, .int w]
def progD (f : List Int → Int) (j : Nat) (top : Int) : D := match unan f j top with
  | some t => .tup [.str "unanimous", .int t]
  | none => match progFall f (rowsOf j top) top with
    | some p => fallD (some p)
    | none => leapD (leap f (rowsOf j top) top)
def lawD (f : List Int → Int) (j : Nat) (top : Int) : D := match unan f j top with
  | some t => .tup [.str "unanimous", .int t]
  | none => match lawFall f (rowsOf j top) with
    | some p => fallD (some p)
    | none => leapD (leap f (rowsOf j top) top)
theorem prog_law (f : List Int → Int) (j : Nat) (top : Int) : progD f j top = lawD f j top := by
  unfold progD lawD
  rw [fall_eq]
def minI (r : List Int) : Int := match r with
  | [] => 0
  | a :: l => l.foldl min a
theorem foldl_min_mem : ∀ (l : List Int) (a : Int), l.foldl min a ∈ a :: l
  | [], a => List.mem_cons_self
  | b :: l, a => by
    have h := foldl_min_mem l (min a b)
    show l.foldl min (min a b) ∈ a :: b :: l
    rcases List.mem_cons.mp h with h | h
    · rw [h]
      by_cases c : a ≤ b
      · rw [Int.min_eq_left c]
        exact List.mem_cons_self
      · rw [Int.min_eq_right (by omega)]
        exact List.mem_cons_of_mem _ List.mem_cons_self
    · exact List.mem_cons_of_mem _ (List.mem_cons_of_mem _ h)
theorem foldl_min_le : ∀ (l : List Int) (a : Int), ∀ x ∈ a :: l, l.foldl min a ≤ x
  | [], a, x, hx => by
    rw [List.mem_singleton.mp hx]
    exact Int.le_refl _
  | b :: l, a, x, hx => by
    show l.foldl min (min a b) ≤ x
    have h := foldl_min_le l (min a b)
    rcases List.mem_cons.mp hx with hx | hx
    · rw [hx]
      exact Int.le_trans (h _ List.mem_cons_self) (Int.min_le_left a b)
    · rcases List.mem_cons.mp hx with hx | hx
      · rw [hx]
        exact Int.le_trans (h _ List.mem_cons_self) (Int.min_le_right a b)
      · exact h x (List.mem_cons_of_mem _ hx)
theorem min_is {r : List Int} {m : Int} (h1 : m ∈ r) (h2 : ∀ y ∈ r, m ≤ y) : m = minI r := by
  cases r with
  | nil => exact absurd h1 List.not_mem_nil
  | cons a l =>
    have g1 := foldl_min_le l a m h1
    have g2 := h2 _ (foldl_min_mem l a)
    show m = l.foldl min a
    omega
theorem minI_le {r : List Int} {x : Int} (h : x ∈ r) : minI r ≤ x := by
  cases r with
  | nil => exact absurd h List.not_mem_nil
  | cons a l => exact foldl_min_le l a x h
def outB (f : List Int → Int) (r : List Int) : Bool := decide (f r < minI r) || decide (maxI r < f r)
def namedD (f : List Int → Int) (j : Nat) (top : Int) : D := match (rowsOf j top).find? (outB f) with
  | some r => rowD r
  | none => .non
/-! ### a voice has no fault -/
theorem voice_prog {j : Nat} {top : Int} {at_ : Nat} (h : at_ < j) : progD (fun r => r.getD at_ 0) j top = .non := by
  have u : unan (fun r => r.getD at_ 0) j top = none := by
    unfold unan
    rw [List.find?_eq_none]
    intro t _
    show ¬ decide ((List.replicate j t).getD at_ 0 ≠ t) = true
    rw [List.getD_eq_getElem?_getD, List.getElem?_replicate, if_pos h]
    simp
  have c : canFall (fun r => r.getD at_ 0) (rowsOf j top) top = false := by
    unfold canFall
    rw [List.any_eq_false]
    intro r hr
    rw [Bool.not_eq_true, List.any_eq_false]
    intro k hk
    have hk := List.mem_range.mp hk
    obtain ⟨l, _⟩ := mem_rows.mp hr
    rw [Bool.and_eq_true, decide_eq_true_eq, decide_eq_true_eq]
    rintro ⟨_, z⟩
    have g : (bump r k).getD at_ 0 ≥ r.getD at_ 0 := by
      unfold bump
      rw [List.append_assoc, List.getD_eq_getElem?_getD, List.getD_eq_getElem?_getD]
      by_cases h1 : at_ < k
      · rw [List.getElem?_append_left (by rw [List.length_take]; omega), List.getElem?_take_of_lt h1]
        exact Int.le_refl _
      · have lt : (r.take k).length = k := by rw [List.length_take]; omega
        rw [List.getElem?_append_right (by omega), lt]
        by_cases h2 : at_ = k
        · subst h2
          rw [Nat.sub_self]
          show (some (r.getD at_ 0 + 1)).getD 0 ≥ _
          rw [List.getD_eq_getElem?_getD]
          show r[at_]?.getD 0 + 1 ≥ r[at_]?.getD 0
          omega
        · have e : at_ - k = (at_ - k - 1) + 1 := by omega
          rw [e, List.singleton_append, List.getElem?_cons_succ, List.getElem?_drop]
          have e2 : k + 1 + (at_ - k - 1) = at_ := by omega
          rw [e2]
          exact Int.le_refl _
    have z' : (bump r k).getD at_ 0 < r.getD at_ 0 := z
    omega
  have p : leap (fun r => r.getD at_ 0) (rowsOf j top) top = none := by
    unfold leap
    rw [List.findSome?_eq_none_iff]
    intro t ht
    rw [List.findSome?_eq_none_iff]
    intro w _
    obtain ⟨l, _⟩ := mem_rows.mp ht
    rw [if_neg]
    show ¬ (addW t w).getD at_ 0 > t.getD at_ 0 + w
    unfold addW
    rw [List.getD_eq_getElem?_getD, List.getD_eq_getElem?_getD, List.getElem?_map, List.getElem?_eq_getElem (by omega)]
    simp
  unfold progD
  rw [u]
  unfold progFall
  rw [c, if_neg Bool.false_ne_true, p]
  rfl
theorem voice_named {j : Nat} {top : Int} {at_ : Nat} (h : at_ < j) : namedD (fun r => r.getD at_ 0) j top = .non := by
  have e : (rowsOf j top).find? (outB fun r => r.getD at_ 0) = none := by
    rw [List.find?_eq_none]
    intro r hr
    obtain ⟨l, _⟩ := mem_rows.mp hr
    have hm : r.getD at_ 0 ∈ r := by
      rw [List.getD_eq_getElem?_getD, List.getElem?_eq_getElem (by omega)]
      exact List.getElem_mem _
    have g1 := minI_le hm
    have g2 := maxI_ge hm
    show ¬ (decide (r.getD at_ 0 < minI r) || decide (maxI r < r.getD at_ 0)) = true
    rw [Bool.or_eq_true, decide_eq_true_eq, decide_eq_true_eq]
    omega
  unfold namedD
  rw [e]
/-! ### the law's own way to the rows -/
def lawStep (m : Nat) (rows : List (List Int)) : List (List Int) := (List.range (rows.length * m)).map fun i => rows.getD (i / m) [] ++ [((i % m : Nat) : Int)]
theorem law_step {m : Nat} (hm : 0 < m) : ∀ rows : List (List Int), lawStep m rows = stepRows 0 (m : Int) rows := by
  intro rows
  have key : ∀ n, n ≤ rows.length → (List.range (n * m)).map (fun i => rows.getD (i / m) [] ++ [((i % m : Nat) : Int)]) = stepRows 0 (m : Int) (rows.take n) := by
    intro n
    induction n with
    | zero =>
      intro _
      rw [Nat.zero_mul]
      rfl
    | succ n ih =>
      intro hn
      rw [Nat.succ_mul, List.range_add, List.map_append, ih (by omega), List.take_add_one, List.getElem?_eq_getElem (by omega)]
      unfold stepRows
      rw [List.flatMap_append]
      congr 1
      show _ = (rng 0 (m : Int)).map (fun x => rows[n] ++ [x]) ++ []
      rw [List.append_nil]
      unfold rng
      rw [List.map_map, List.map_map]
      have e : ((m : Int) - 0).toNat = m := by omega
      rw [e]
      refine List.map_congr_left fun i hi => ?_
      have hi := List.mem_range.mp hi
      show rows.getD ((n * m + i) / m) [] ++ [(((n * m + i) % m : Nat) : Int)] = rows[n] ++ [0 + (i : Int)]
      have e1 : (n * m + i) / m = n := by
        rw [Nat.mul_comm, Nat.mul_add_div hm, Nat.div_eq_of_lt hi, Nat.add_zero]
      have e2 : (n * m + i) % m = i := by
        rw [Nat.mul_comm, Nat.mul_add_mod, Nat.mod_eq_of_lt hi]
      rw [e1, e2, List.getD_eq_getElem?_getD, List.getElem?_eq_getElem (by omega), Int.zero_add]
      rfl
  have h := key rows.length (Nat.le_refl _)
  rw [List.take_length] at h
  exact h
end M17
namespace M17
theorem from_len {least : List Int} {top : Int} (h : ∀ x ∈ least, 0 ≤ x) : (rowsFrom least top).length ≤ (top + 1).toNat ^ least.length := by
  rw [from_filter least h, ← rows_len]
  exact List.length_filter_le _ _
theorem from_take_len {least : List Int} {top : Int} (h : ∀ x ∈ least, 0 ≤ x) (h0 : 0 ≤ top) (i : Nat) : (rowsFrom (least.take i) top).length ≤ (top + 1).toNat ^ least.length := by
  refine Nat.le_trans (from_len fun x hx => h x (List.mem_of_mem_take hx)) (Nat.pow_le_pow_right (by omega) ?_)
  rw [List.length_take]
  exact Nat.min_le_right _ _
theorem from_take_succ {least : List Int} {top lo : Int} {i : Nat} (h : least[i]? = some lo) : rowsFrom (least.take (i + 1)) top = stepRows lo (top + 1) (rowsFrom (least.take i) top) := by
  rw [List.take_add_one, h]
  exact rowsFrom_snoc _ _ _
theorem step_take_succ {lo hi : Int} {rows : List (List Int)} {j : Nat} {r : List Int} (h : rows[j]? = some r) : stepRows lo hi (rows.take (j + 1)) = stepRows lo hi (rows.take j) ++ (rng lo hi).map fun x => r ++ [x] := by
  rw [List.take_add_one, h]
  unfold stepRows
  rw [List.flatMap_append]
  congr 1
  show (rng lo hi).map (fun x => r ++ [x]) ++ [] = _
  rw [List.append_nil]
theorem step_take_lt {lo hi : Int} {rows : List (List Int)} {j m : Nat} (hj : j < rows.length) (hm : m < (hi - lo).toNat) : (stepRows lo hi (rows.take j)).length + m < (stepRows lo hi rows).length := by
  rw [step_len, step_len, List.length_take, Nat.min_eq_left (by omega)]
  have h := Nat.mul_le_mul_right (hi - lo).toNat (show j + 1 ≤ rows.length from hj)
  rw [Nat.succ_mul] at h
  omega
theorem from_width {top : Int} (s : List Int) : ∀ r ∈ rowsFrom s top, r.length = s.length := by
  refine snoc_ind (P := fun s => ∀ r ∈ rowsFrom s top, r.length = s.length) (fun r hr => ?_) (fun s lo ih r hr => ?_) s
  · have e : r = [] := List.mem_singleton.mp hr
    rw [e]
  · rw [rowsFrom_snoc] at hr
    obtain ⟨t, x, ht, _, _, rfl⟩ := mem_step.mp hr
    rw [List.length_append, List.length_append, ih t ht]
    rfl
theorem from_wide {least : List Int} {top : Int} {i : Nat} {r : List Int} (h : r ∈ rowsFrom (least.take i) top) : r.length ≤ least.length := by
  rw [from_width _ r h, List.length_take]
  exact Nat.min_le_right _ _
end M17
namespace M17
theorem bump_box {j : Nat} {top : Int} {r : List Int} {k : Nat} (h : InBox j top r) (hk : k < j) (ht : r.getD k 0 < top) : InBox j top (bump r k) := by
  obtain ⟨l, b⟩ := h
  have hm : r.getD k 0 ∈ r := by
    rw [List.getD_eq_getElem?_getD, List.getElem?_eq_getElem (by omega)]
    exact List.getElem_mem _
  unfold bump
  refine ⟨by rw [List.length_append, List.length_append, List.length_take, List.length_drop]; simp; omega, fun x hx => ?_⟩
  rcases List.mem_append.mp hx with hx | hx
  · rcases List.mem_append.mp hx with hx | hx
    · exact b x (List.mem_of_mem_take hx)
    · rw [List.mem_singleton.mp hx]
      have := b _ hm
      omega
  · exact b x (List.mem_of_mem_drop hx)
theorem any_snoc {α : Type} {p : α → Bool} {l : List α} {i : Nat} {r : α} (h : l[i]? = some r) (h0 : (l.take i).any p = false) (h1 : p r = false) : (l.take (i + 1)).any p = false := by
  rw [List.take_add_one, h, List.any_append, h0]
  show (false || (p r || false)) = false
  rw [h1]
  rfl
theorem any_hit {α : Type} {p : α → Bool} {l : List α} {i : Nat} {r : α} (h : l[i]? = some r) (h1 : p r = true) : l.any p = true := List.any_eq_true.mpr ⟨r, List.mem_of_getElem? h, h1⟩
theorem fs_snoc {α β : Type} {F : α → Option β} {l : List α} {i : Nat} {r : α} (h : l[i]? = some r) (h0 : (l.take i).findSome? F = none) (h1 : F r = none) : (l.take (i + 1)).findSome? F = none := by
  rw [List.take_add_one, h, List.findSome?_append, h0]
  show (none : Option β).or ([r].findSome? F) = none
  rw [List.findSome?_cons, h1]
  rfl
theorem fs_hit {α β : Type} {F : α → Option β} {l : List α} {i : Nat} {r : α} {x : β} (h : l[i]? = some r) (h0 : (l.take i).findSome? F = none) (h1 : F r = some x) : l.findSome? F = some x := by
  have hi := (List.getElem?_eq_some_iff.mp h).1
  have e : l = l.take i ++ r :: l.drop (i + 1) := by
    rw [(List.getElem?_eq_some_iff.mp h).2.symm, List.getElem_cons_drop, List.take_append_drop]
  rw [e, List.findSome?_append, h0]
  show (none : Option β).or ((r :: l.drop (i + 1)).findSome? F) = some x
  rw [List.findSome?_cons, h1]
  rfl
theorem find_snoc {α : Type} {p : α → Bool} {l : List α} {i : Nat} {r : α} (h : l[i]? = some r) (h0 : (l.take i).find? p = none) (h1 : p r = false) : (l.take (i + 1)).find? p = none := by
  rw [List.take_add_one, h, List.find?_append, h0]
  show (none : Option α).or ([r].find? p) = none
  rw [List.find?_cons, h1]
  rfl
theorem find_hit {α : Type} {p : α → Bool} {l : List α} {i : Nat} {r : α} (h : l[i]? = some r) (h0 : (l.take i).find? p = none) (h1 : p r = true) : l.find? p = some r := by
  have e : l = l.take i ++ r :: l.drop (i + 1) := by
    rw [(List.getElem?_eq_some_iff.mp h).2.symm, List.getElem_cons_drop, List.take_append_drop]
  rw [e, List.find?_append, h0]
  show (none : Option α).or ((r :: l.drop (i + 1)).find? p) = some r
  rw [List.find?_cons, h1]
  rfl
end M17
namespace M17
theorem le_range : ∀ (r t : List Int), r.length = t.length → ((List.range r.length).map fun k => decide (r.getD k 0 ≤ t.getD k 0)).all id = leB r t
  | [], [], _ => rfl
  | a :: r, b :: t, h => by
    have ih := le_range r t (by simpa using h)
    rw [List.length_cons, List.range_succ_eq_map, List.map_cons, List.all_cons, List.map_map]
    show (decide (a ≤ b) && ((List.range r.length).map fun k => decide (r.getD k 0 ≤ t.getD k 0)).all id) = leB (a :: r) (b :: t)
    rw [ih]
    rfl
theorem law_row {rows : List (List Int)} {m i : Nat} : ((List.range (rows.length * m)).take i).map (fun i => rows.getD (i / m) [] ++ [((i % m : Nat) : Int)]) = (lawStep m rows).take i := by
  unfold lawStep
  rw [List.map_take]
theorem law_take {rows : List (List Int)} {m i : Nat} (h : i < rows.length * m) : (lawStep m rows).take (i + 1) = (lawStep m rows).take i ++ [rows.getD (i / m) [] ++ [((i % m : Nat) : Int)]] := by
  rw [List.take_add_one]
  congr 1
  unfold lawStep
  rw [List.getElem?_map, List.getElem?_range h]
  rfl
theorem law_len {rows : List (List Int)} {m : Nat} : (lawStep m rows).length = rows.length * m := by
  unfold lawStep
  rw [List.length_map, List.length_range]
theorem head_filter {α : Type} (p : α → Bool) : ∀ l : List α, (l.filter p).head? = l.find? p
  | [] => rfl
  | a :: l => by
    rw [List.filter_cons, List.find?_cons]
    by_cases h : p a = true
    · rw [if_pos h, h]
      rfl
    · rw [if_neg h, Bool.eq_false_iff.mpr h]
      exact head_filter p l
end M17
/-! Vote rules: the defs of the program and of the law, def by def. -/
namespace K17
open PySem PySem.Spec PyProof.Rows L2 KX M17
def topS (i : Nat) : Stmt := PySem.Challenge.pw_treatalike_k17_every_vote_rule_by_digits.main.body.getD i (.Pass ⟨0, 0, 0, 0⟩)
abbrev sBound : Stmt := topS 5
abbrev sVB : Stmt := topS 7
abbrev sTF : Stmt := topS 8
abbrev sAT : Stmt := topS 9
abbrev sCF : Stmt := topS 10
abbrev sFF : Stmt := topS 11
abbrev sFL : Stmt := topS 12
abbrev sVF : Stmt := topS 13
abbrev sNF : Stmt := topS 14
theorem scTF : FnScope ["least", "top", "rows", "low", "row", "amount"] ["least", "top"] (defScope sTF) := ⟨rfl, rfl, rfl, by decide +kernel, rfl, by decide +kernel, by decide +kernel⟩
theorem scCF : FnScope ["told", "top", "row", "k", "higher"] ["told", "top"] (defScope sCF) := ⟨rfl, rfl, rfl, by decide +kernel, rfl, by decide +kernel, by decide +kernel⟩
theorem scFF : FnScope ["told", "top", "s", "t"] ["told", "top"] (defScope sFF) := ⟨rfl, rfl, rfl, by decide +kernel, rfl, by decide +kernel, by decide +kernel⟩
theorem scFL : FnScope ["told", "top", "t", "w", "amount"] ["told", "top"] (defScope sFL) := ⟨rfl, rfl, rfl, by decide +kernel, rfl, by decide +kernel, by decide +kernel⟩
/-! ### heaps -/
theorem same_upd {H : Hp} {p : Addr} {o : HO} (h : H p = none) : Same H (upd H p o) := fun b x e => by
  rw [upd_ne (ne_of_none e h)]
  exact e
def RowsAt (H : Hp) (as : List Addr) (rows : List (List Int)) : Prop := as.length = rows.length ∧ ∀ (i : Nat) (a : Addr) (r : List Int), as[i]? = some a → rows[i]? = some r → H a = some (.tup (r.map V.int))
theorem RowsAt.same {H H' : Hp} {as : List Addr} {rows : List (List Int)} (h : RowsAt H as rows) (e : Same H H') : RowsAt H' as rows := ⟨h.1, fun i a r h1 h2 => e _ _ (h.2 i a r h1 h2)⟩
theorem RowsAt.nil (H : Hp) : RowsAt H [] [] := ⟨rfl, fun i a r h _ => by simp at h⟩
theorem RowsAt.snoc {H : Hp} {as : List Addr} {rows : List (List Int)} {a : Addr} {r : List Int} (h : RowsAt H as rows) (e : H a = some (.tup (r.map V.int))) : RowsAt H (as ++ [a]) (rows ++ [r]) := by
  refine ⟨by rw [List.length_append, List.length_append, h.1]; rfl, fun i b t h1 h2 => ?_⟩
  by_cases c : i < as.length
  · rw [List.getElem?_append_left c] at h1
    rw [List.getElem?_append_left (by rw [← h.1]; exact c)] at h2
    exact h.2 i b t h1 h2
  · have ei : i = as.length := by
      have := (List.getElem?_eq_some_iff.mp h1).1
      rw [List.length_append] at this
      have z : [a].length = 1 := rfl
      omega
    rw [ei, List.getElem?_append_right (Nat.le_refl _), Nat.sub_self] at h1
    rw [ei, h.1, List.getElem?_append_right (Nat.le_refl _), Nat.sub_self] at h2
    have e1 : a = b := Option.some.inj h1
    have e2 : r = t := Option.some.inj h2
    rw [← e1, ← e2]
    exact e
theorem refs_at {as : List Addr} {i : Nat} {x : V} (h : (as.map V.ref)[i]? = some x) : ∃ a, as[i]? = some a ∧ x = .ref a := by
  rw [List.getElem?_map] at h
  cases e : as[i]? with
  | none => rw [e] at h; cases h
  | some a => rw [e] at h; exact ⟨a, rfl, (Option.some.inj h).symm⟩
theorem ints_at {ns : List Int} {i : Nat} {x : V} (h : (ns.map V.int)[i]? = some x) : ∃ a, ns[i]? = some a ∧ x = .int a := by
  rw [List.getElem?_map] at h
  cases e : ns[i]? with
  | none => rw [e] at h; cases h
  | some a => rw [e] at h; exact ⟨a, rfl, (Option.some.inj h).symm⟩
theorem line_le {n : Nat} (h : n ≤ 5000) : n ≤ sizeLine := by rw [sizeLine_eq]; omega
theorem line1 : 1 ≤ sizeLine := by rw [sizeLine_eq]; decide
theorem line2 : 2 ≤ sizeLine := by rw [sizeLine_eq]; decide
theorem line3 : 3 ≤ sizeLine := by rw [sizeLine_eq]; decide
theorem line_lt {n : Nat} (h : n ≤ 5000) : n < sizeLine := by rw [sizeLine_eq]; omega
section
variable {P : Program} {w : World} {K : PySem.W.Frag} {mg : Str → Option Value} {base : Heap}
/-! ### tuples_from -/
def spTF : Sp := fun vs H Q _ => ∃ (a : Addr) (least : List Int) (top : Int), vs = [.ref a, .int top] ∧ H a = some (.tup (least.map V.int)) ∧ (∀ x ∈ least, 0 ≤ x ∧ x ≤ 1000) ∧ least.length ≤ 1000 ∧ 0 ≤ top ∧ top ≤ 1000 ∧ (top + 1).toNat ^ least.length ≤ 1000 ∧
  ∀ H' p as, Same H H' → H p = none → H' p = some (.lst (as.map V.ref)) → RowsAt H' as (rowsFrom least top) → Q (.ref p) H'
theorem ok_TF {f : Addr} {fd : FuncData} {k : Nat} (F : Fun K "tuples_from" "tuples_from" sTF f fd) (mr : mg "range" = none) : FnOk P w K mg base CX0 (k + 1) f fd ["least", "top"] spTF := by
  refine F.ok scTF (fun vs H Q E h => ?_) (fun cdv A outer s H vs Q E hr h => ?_)
  · obtain ⟨a, least, top, rfl, _⟩ := h
    rfl
  · obtain ⟨a, least, top, rfl, ha, hb, hz, h0, h1, hn, q⟩ := h
    refine ⟨_, pss_cons (ps_set (i := 2) scTF.nd rfl (.inl rfl) (pe_lst (pa_cons (pe_tup pa_nil) pa_nil)))
      (pss_cons (ps_for PassesOwn.never rfl (pi_tup (pv 0)) (pg_name (i := 3) scTF.nd rfl (.inr rfl))
        (pss_one (ps_setLc2 (i := 2) (own := [("row", 4), ("amount", 5)]) (g := gName 4) (g1 := gName 5) (vs1 := [5]) (tt := tYes) (tt1 := tYes) rfl scTF.nd rfl rfl (sw_true rfl rfl rfl (by decide +kernel)) (pi_list (pv 2))
          (blkOk_by (own := [("row", 4), ("amount", 5)]) (N := ["least", "top", "rows", "low", "row", "amount"]) (sc := defScope sTF) (by decide +kernel)) (by decide)
          (fun _ _ _ _ _ => pg_name (i := 4) scTF.nd rfl (.inl rfl)) (fun _ _ _ _ _ => pts_nil)
          (fun _ _ _ _ _ => pi_range2 rfl mr (pa_cons (pv 3) (pa_cons (pe_op op_add (pv 1) pe_int) pa_nil)))
          (fun _ _ _ _ _ => pg_name (i := 5) scTF.nd rfl (.inl rfl)) (fun _ _ _ _ _ => pts_nil)
          (fun _ _ _ _ _ => pe_op (op_catK (K := K) rfl) (pv 4) (pe_tup (pa_cons (pv 5) pa_nil))))))
      (pss_one (ps_ret (pv 2)))), ?_⟩
    -- rows = [()]
    refine ⟨Nat.zero_le _, fun t nt => ⟨line1, fun L nL => ?_⟩⟩
    have sT := same_upd (o := .tup []) nt
    have sL := same_upd (o := .lst [V.ref t]) nL
    -- for low in least
    refine ⟨.ref a, rfl, a, rfl, ⟨_, SqT.of (sL _ _ (sT _ _ ha))⟩, f_tup (xs := least.map V.int) (fun i σ H3 => ∃ L as y3, σ = [some (.ref a), some (.int top), some (.ref L), y3, none, none] ∧ Same H H3 ∧ H L = none ∧ H3 L = some (.lst (as.map V.ref)) ∧ RowsAt H3 as (rowsFrom (least.take i) top))
      ⟨L, [t], none, rfl, sT.trans sL, sT.free nL, upd_same, ((RowsAt.nil _).snoc (r := []) upd_same).same sL⟩ (fun i σ H3 _ hp => ?_) (fun i x σ H3 hx hp => ?_) (fun σ H3 hp => ?_)⟩
    · obtain ⟨_, _, _, _, sm, _⟩ := hp
      exact SqT.of (sm _ _ ha)
    · obtain ⟨L, as, y3, rfl, sm, nL, eL, rw3⟩ := hp
      obtain ⟨lo, hlo, rfl⟩ := ints_at hx
      obtain ⟨b0, b1⟩ := hb lo (List.mem_of_getElem? hlo)
      have len1 := from_take_len (fun x hx => (hb x hx).1) h0 (least := least) (top := top) (i + 1)
      rw [from_take_succ hlo] at len1
      have nx := from_take_succ (top := top) hlo
      generalize hrows : rowsFrom (least.take i) top = rows at rw3 len1 nx
      -- the comprehension
      refine ⟨.ref L, rfl, L, rfl, ⟨_, SqL.of eL⟩, fun D nD => ?_⟩
      have sD := same_upd (o := .lst []) nD
      refine w_list (xs := as.map V.ref) (fun j H4 => ∃ bs, Same H3 H4 ∧ H4 D = some (.lst (bs.map V.ref)) ∧ RowsAt H4 bs (stepRows lo (top + 1) (rows.take j)))
        ⟨[], sD, upd_same, RowsAt.nil _⟩ (fun j H4 _ hp => ?_) (fun j x H4 hx hp => ?_) (fun H4 hp => ?_)
      · obtain ⟨_, s4, _⟩ := hp
        exact SqL.of (s4 _ _ eL)
      · obtain ⟨bs, s4, eD, rw4⟩ := hp
        obtain ⟨c, hc, rfl⟩ := refs_at hx
        have hj : j < rows.length := by
          rw [← rw3.1]
          exact (List.getElem?_eq_some_iff.mp hc).1
        have hr : rows[j]? = some rows[j] := List.getElem?_eq_getElem hj
        have hcr := rw3.2 j c _ hc hr
        have hwd : rows[j].length ≤ least.length := from_wide (top := top) (i := i) (by rw [hrows]; exact List.getElem_mem hj)
        have nx4 := step_take_succ (lo := lo) (hi := top + 1) hr
        generalize rows[j] = r at hcr nx4 hwd
        refine ⟨rfl, .int lo, rfl, .int top, rfl, _, _, rfl, rfl, lo, top + 1, rfl, ⟨by omega, by omega, by omega, by omega⟩, ?_⟩
        refine w_rng (lo := lo) (n := (top + 1 - lo).toNat) (fun m H5 => ∃ bs, Same H3 H5 ∧ H5 D = some (.lst (bs.map V.ref)) ∧ RowsAt H5 bs (stepRows lo (top + 1) (rows.take j) ++ ((rng lo (top + 1)).take m).map fun x => r ++ [x]))
          ⟨bs, s4, eD, by rw [List.take_zero, List.map_nil, List.append_nil]; exact rw4⟩ (fun m H5 hm hp => ?_) (fun H5 hp => ?_)
        · obtain ⟨bs, s5, eD5, rw5⟩ := hp
          have lt := step_take_lt (lo := lo) (hi := top + 1) (rows := rows) hj hm
          have hlen : bs.length ≤ 5000 := by
            rw [rw5.1, List.length_append, List.length_map, List.length_take]
            omega
          have cr5 : H5 c = some (.tup (r.map V.int)) := s5 _ _ hcr
          have grow : ((rng lo (top + 1)).take (m + 1)).map (fun x => r ++ [x]) = ((rng lo (top + 1)).take m).map (fun x => r ++ [x]) ++ [r ++ [lo + (m : Int)]] := by
            rw [List.take_add_one, rng_get hm, List.map_append]
            rfl
          refine ⟨rfl, .ref c, rfl, .int (lo + m), rfl, line1, fun t nt => ?_⟩
          have sT := same_upd (o := .tup [.int (lo + m)]) nt
          have fin : ∀ (H6 : Hp) (p : Addr), Same H5 H6 → H6 p = some (.tup ((r ++ [lo + (m : Int)]).map V.int)) → ∃ acc, H6 D = some (.lst acc) ∧ acc.length < sizeLine ∧ (∃ bs, Same H3 (upd H6 D (.lst (acc ++ [.ref p]))) ∧ (upd H6 D (.lst (acc ++ [.ref p]))) D = some (.lst (bs.map V.ref)) ∧
              RowsAt (upd H6 D (.lst (acc ++ [.ref p]))) bs (stepRows lo (top + 1) (rows.take j) ++ ((rng lo (top + 1)).take (m + 1)).map fun x => r ++ [x])) := by
            intro H6 p s6 ep
            refine ⟨bs.map V.ref, s6 _ _ eD5, line_lt (by rw [List.length_map]; exact hlen), bs ++ [p], ?_, ?_, ?_⟩
            · intro b o e
              rw [upd_ne (ne_of_none e nD)]
              exact s6 _ _ (s5 _ _ e)
            · rw [upd_same, List.map_append]
              rfl
            · rw [grow, ← List.append_assoc]
              have ne : ∀ {b : Addr} {xs : List V}, H6 b = some (.tup xs) → (upd H6 D (.lst (bs.map V.ref ++ [.ref p]))) b = some (.tup xs) := fun {b xs} e => by
                rw [upd_ne (ne_of e (s6 _ _ eD5) (fun z => nomatch z))]
                exact e
              exact RowsAt.snoc ⟨rw5.1, fun i b t h1 h2 => ne (s6 _ _ (rw5.2 i b t h1 h2))⟩ (ne ep)
          refine ⟨c, t, _, _, rfl, rfl, SqT.of (sT _ _ cr5), SqT.of upd_same, ?_, fun e0 => ?_, fun _ z => (nomatch z), fun _ _ p np => ?_⟩
          · refine line_le ?_
            rw [List.length_map]
            show r.length + 1 ≤ 5000
            omega
          · have e1 : r = [] := List.map_eq_nil_iff.mp e0
            refine fin _ t sT ?_
            rw [e1]
            exact upd_same
          · refine fin _ p (sT.trans (same_upd np)) ?_
            rw [upd_same, List.map_append]
            rfl
        · obtain ⟨bs, s5, eD5, rw5⟩ := hp
          refine ⟨bs, s5, eD5, ?_⟩
          rw [List.take_of_length_le (l := rng lo (top + 1)) (by rw [rng_len]; exact Nat.le_refl _), ← nx4] at rw5
          exact rw5
      · obtain ⟨bs, s4, eD, rw4⟩ := hp
        rw [List.take_of_length_le (by rw [List.length_map, rw3.1]; exact Nat.le_refl _)] at rw4
        refine ⟨D, bs, _, rfl, sm.trans s4, sm.free nD, eD, ?_⟩
        rw [nx]
        exact rw4
    · obtain ⟨L, as, y3, rfl, sm, nL, eL, rw3⟩ := hp
      rw [List.take_of_length_le (by rw [List.length_map]; exact Nat.le_refl _)] at rw3
      exact ⟨.ref L, rfl, q H3 L as sm nL eL rw3⟩
end
end K17
namespace K17
open PySem PySem.Spec PyProof.Rows L2 KX M17
/-! ### tables -/
def kR (r : List Int) : List Key := r.map Sum.inl
theorem kR_V (r : List Int) : (kR r).map kV = r.map V.int := by
  unfold kR
  rw [List.map_map]
  rfl
theorem kR_inj {r t : List Int} (h : kR r = kR t) : r = t := by
  induction r generalizing t with
  | nil => cases t with
    | nil => rfl
    | cons b t => cases h
  | cons a r ih => cases t with
    | nil => cases h
    | cons b t =>
      have h2 : (Sum.inl a : Key) :: kR r = Sum.inl b :: kR t := h
      injection h2 with h3 h4
      rw [ih h4, Sum.inl.inj h3]
def tabK (rows : List (List Int)) (g : List Int → Int) : List (List Key × V) := rows.map fun r => (kR r, V.int (g r))
theorem tab_len (rows : List (List Int)) (g : List Int → Int) : (tabK rows g).length = rows.length := List.length_map ..
theorem tab_at {rows : List (List Int)} {g : List Int → Int} {i : Nat} {k : List Key} {v : V} (h : (tabK rows g)[i]? = some (k, v)) : ∃ r, rows[i]? = some r ∧ k = kR r ∧ v = .int (g r) := by
  unfold tabK at h
  rw [List.getElem?_map] at h
  cases e : rows[i]? with
  | none => rw [e] at h; cases h
  | some r =>
    rw [e] at h
    have h2 : (kR r, V.int (g r)) = (k, v) := Option.some.inj h
    injection h2 with h3 h4
    exact ⟨r, rfl, h3.symm, h4.symm⟩
theorem tab_get {g : List Int → Int} {r : List Int} : ∀ {rows : List (List Int)}, r ∈ rows → valV (tabK rows g) (kR r) = some (.int (g r))
  | t :: rows, h => by
    show valV ((kR t, V.int (g t)) :: tabK rows g) (kR r) = _
    by_cases e : t = r
    · rw [e]
      exact valV_pos (p := (kR r, V.int (g r))) rfl
    · rw [valV_neg (p := (kR t, V.int (g t))) (fun z => e (kR_inj z))]
      exact tab_get ((List.mem_cons.mp h).resolve_left fun z => e z.symm)
theorem tab_none {g : List Int → Int} {r : List Int} : ∀ {rows : List (List Int)}, r ∉ rows → valV (tabK rows g) (kR r) = none
  | [], _ => rfl
  | t :: rows, h => by
    show valV ((kR t, V.int (g t)) :: tabK rows g) (kR r) = _
    rw [valV_neg (p := (kR t, V.int (g t))) (fun z => h (by rw [kR_inj z]; exact List.mem_cons_self))]
    exact tab_none fun z => h (List.mem_cons_of_mem _ z)
def setG (g : List Int → Int) (r : List Int) (x : Int) : List Int → Int := fun t => if t = r then x else g t
theorem put_tab {rows : List (List Int)} {g : List Int → Int} {r : List Int} {x : Int} (h : r ∈ rows) : putK (tabK rows g) (kR r) (.int x) = tabK rows (setG g r x) := by
  unfold putK
  have a : ((tabK rows g).any fun kv => decide (kv.1 = kR r)) = true := by
    rw [valV_any, tab_get h]
    rfl
  rw [if_pos a]
  unfold tabK
  rw [List.map_map]
  refine List.map_congr_left fun t _ => ?_
  show (if kR t = kR r then (kR t, V.int x) else (kR t, V.int (g t))) = (kR t, V.int (if t = r then x else g t))
  by_cases e : t = r
  · rw [if_pos e, if_pos (by rw [e])]
  · rw [if_neg e, if_neg fun z => e (kR_inj z)]
theorem put_new {rows : List (List Int)} {g : List Int → Int} {r : List Int} (h : r ∉ rows) : putK (tabK rows g) (kR r) (.int (g r)) = tabK (rows ++ [r]) g := by
  rw [putK_new _ (tab_none h)]
  unfold tabK
  rw [List.map_append]
  rfl
theorem get_int {r : List Int} {i : Nat} (h : i < r.length) : (r.map V.int)[i]? = some (.int (r.getD i 0)) := by
  rw [List.getElem?_map, List.getD_eq_getElem?_getD, List.getElem?_eq_getElem h]
  rfl
theorem same_lock {H H' : Hp} {d : Addr} {u v : HO} (hd : H d = some u) (h : Same (upd H d v) H') : Same H (upd H' d u) := by
  intro b o e
  by_cases c : b = d
  · rw [c, hd] at e
    rw [c, upd_same]
    exact e
  · rw [upd_ne c]
    exact h _ _ (by rw [upd_ne c]; exact e)
/-- told or locked -/
def DT (H : Hp) (d : Addr) (kvs : List (List Key × V)) : Prop := Rd H d (.dT kvs)
theorem dget {H : Hp} {d b : Addr} {rows : List (List Int)} {g : List Int → Int} {r : List Int} (hd : Rd H d (.dT (tabK rows g))) (hb : H b = some (.tup (r.map V.int))) (hr : r ∈ rows) : DGet H d (.ref b) (some (.int (g r))) :=
  .inr ⟨_, kR r, b, hd, rfl, by rw [kR_V]; exact hb, (tab_get hr).symm⟩
theorem cat_any {K : PySem.W.Frag} {H : Hp} {a b : Addr} {xs ys : List V} {Q : VK} (ha : H a = some (.tup xs)) (hb : H b = some (.tup ys)) (hz : xs.length + ys.length ≤ 5000) (q : ∀ H' c, Same H H' → H' c = some (.tup (xs ++ ys)) → Q (.ref c) H') : rCatA K (.ref a) (.ref b) H Q := by
  refine ⟨a, b, xs, ys, rfl, rfl, SqT.of ha, SqT.of hb, line_le hz, fun e => ?_, fun _ e => ?_, fun _ _ p np => ?_⟩
  · subst e
    exact q _ _ (Same.refl H) hb
  · subst e
    exact q _ _ (Same.refl H) (by rw [List.append_nil]; exact ha)
  · exact q _ _ (same_upd np) upd_same
theorem sl_any {K : PySem.W.Frag} {H : Hp} {a : Addr} {xs : List V} {lo hi : Option Int} {Q : VK} (ha : H a = some (.tup xs)) (q : ∀ H' c, Same H H' → H' c = some (.tup (cutV xs lo hi)) → Q (.ref c) H') : rSlA K (.ref a) lo hi H Q := by
  refine ⟨a, xs, rfl, SqT.of ha, fun ⟨e1, e2⟩ => q _ _ (Same.refl H) ?_, fun _ p np => q _ _ (same_upd np) upd_same⟩
  have e : cutV xs lo hi = xs := by
    unfold cutV
    rw [e1, e2]
    show List.take (xs.length - 0) xs = xs
    rw [Nat.sub_zero, List.take_length]
  rw [e]
  exact ha
theorem cut_to {xs : List V} {k : Nat} (h : k ≤ xs.length) : cutV xs none (some (k : Int)) = xs.take k := by
  unfold cutV
  rw [HT.sIx_none, HT.sIx_nat, Nat.min_eq_left h]
  rfl
theorem cut_from {xs : List V} {k : Nat} (h : k ≤ xs.length) : cutV xs (some (k : Int)) none = xs.drop k := by
  unfold cutV
  rw [HT.sIx_none, HT.sIx_nat, Nat.min_eq_left h]
  exact List.take_of_length_le (by rw [List.length_drop]; exact Nat.le_refl _)
theorem po_n {X : Cx} : PO X none (fun _ H Q => Q none H) := po_none
section
variable {P : Program} {w : World} {K : PySem.W.Frag} {mg : Str → Option Value} {base : Heap}
/-! ### can_fall -/
def spCF : Sp := fun vs H Q _ => ∃ (d : Addr) (j : Nat) (top : Int) (g : List Int → Int), vs = [.ref d, .int top] ∧ H d = some (.dT (tabK (rowsOf j top) g)) ∧ j ≤ 1000 ∧ ∀ H', Same H H' → Q (.bl (canFall g (rowsOf j top) top)) H'
def fallAt (g : List Int → Int) (top : Int) (r : List Int) (k : Nat) : Bool := decide (r.getD k 0 < top) && decide (g (M17.bump r k) < g r)
theorem canFall_eq (g : List Int → Int) (rows : List (List Int)) (top : Int) : canFall g rows top = rows.any fun r => (List.range r.length).any (fallAt g top r) := rfl
theorem ok_CF {f : Addr} {fd : FuncData} {k : Nat} (F : Fun K "can_fall" "can_fall" sCF f fd) (mr : mg "range" = none) (ml : mg "len" = none) : FnOk P w K mg base CX0 (k + 1) f fd ["told", "top"] spCF := by
  refine F.ok scCF (fun vs H Q E h => ?_) (fun cdv A outer s H vs Q E hr h => ?_)
  · obtain ⟨d, j, top, g, rfl, _⟩ := h
    rfl
  · obtain ⟨d, j, top, g, rfl, hd, hj, q⟩ := h
    have hu := hu_of hr
    refine ⟨_, pss_cons (ps_lock (ps_for PassesOwn.never rfl (pi_keys (pv 0)) (pg_name (i := 2) scCF.nd rfl (.inl rfl))
      (pss_one (ps_for PassesOwn.never rfl (pi_range1 rfl mr (pa_cons (pe_callB call_len_seq (by rfl) ml PySem.boot_len (pa_cons (pv 2) pa_nil)) pa_nil)) (pg_name (i := 3) scCF.nd rfl (.inl rfl))
        (pss_one (ps_if (pt_cmpR op_lt (pe_ix ix_tup (pv 2) (pv 3) (fun _ _ => rfl)) (pv 1) (nomark _))
          (pss_cons (ps_set (i := 4) scCF.nd rfl (.inl rfl) (pe_op op_catA (pe_op op_catA (pe_slice sl_tupA (pv 2) po_none (po_some (pv 3))) (pe_tup (pa_cons (pe_op op_add (pe_ix ix_tup (pv 2) (pv 3) (fun _ _ => rfl)) pe_int) pa_nil)))
              (pe_slice sl_tupA (pv 2) (po_some (pe_op op_add (pv 3) pe_int)) po_n)))
            (pss_one (ps_if (pt_cmpR op_lt (pe_dget hu (pv 0) (pv 4) (fun _ _ => rfl)) (pe_dget hu (pv 0) (pv 2) (fun _ _ => rfl)) (nomark _)) (pss_one (ps_ret pe_bl)) pss_nil))) pss_nil))))))
      (pss_one (ps_ret pe_bl)), ?_⟩
    refine ⟨d, _, hd, trivial, fun od => ⟨.ref d, rfl, d, od, rfl, .inr ⟨_, upd_same, ?_⟩⟩⟩
    refine f_keysT (fun i σ H3 => ∃ y2 y3 y4, σ = [some (.ref d), some (.int top), y2, y3, y4] ∧ Same (upd H d (.frz od (.dT (tabK (rowsOf j top) g)))) H3 ∧ ((rowsOf j top).take i).any (fun r => (List.range r.length).any (fallAt g top r)) = false)
      ⟨none, none, none, rfl, Same.refl _, rfl⟩ (fun i σ H3 _ hp => ?_) (fun i kk v c σ H3 hx hc hp => ?_) (fun σ H3 hp => ?_)
    · obtain ⟨_, _, _, _, sm, _⟩ := hp
      exact sm _ _ upd_same
    · obtain ⟨y2, y3, y4, rfl, sm, no⟩ := hp
      obtain ⟨r, hr2, rfl, rfl⟩ := tab_at hx
      rw [kR_V] at hc
      have hbox := mem_rows.mp (List.mem_of_getElem? hr2)
      obtain ⟨rl, rb⟩ := id hbox
      refine ⟨.ref c, rfl, c, r.map V.int, rfl, .inr (SqT.of hc), _, rfl, by omega, by rw [List.length_map]; omega, ?_⟩
      refine f_rng (lo := 0) (fun m σ H4 => ∃ y3 y4, σ = [some (.ref d), some (.int top), some (.ref c), y3, y4] ∧ Same H3 H4 ∧ (List.range m).any (fallAt g top r) = false) ⟨y3, y4, rfl, Same.refl _, rfl⟩ (fun m σ H4 hm hp => ?_) (fun σ H4 hp => ?_)
      · obtain ⟨y3, y4, rfl, s4, no4⟩ := hp
        have hm : m < r.length := by simpa using hm
        have hc4 := s4 _ _ hc
        rw [Int.zero_add]
        refine ⟨.ref c, rfl, .int m, rfl, c, _, _, .int (r.getD m 0), rfl, rfl, SqT.of hc4, atI_nat (get_int hm), .int top, rfl, _, _, rfl, rfl, _, rfl, ite2 (fun lt => ?_) (fun ge => ?_)⟩
        · have lt := of_decide_eq_true lt
          refine ⟨.ref c, rfl, .int m, rfl, m, rfl, sl_any hc4 fun H5 c1 s5 e1 => ?_⟩
          rw [cut_to (by rw [List.length_map]; omega), ← List.map_take] at e1
          refine ⟨.ref c, rfl, .int m, rfl, c, _, _, .int (r.getD m 0), rfl, rfl, SqT.of (s5 _ _ hc4), atI_nat (get_int hm), _, _, rfl, rfl, line1, fun t nt => ?_⟩
          have sT := same_upd (o := .tup [.int (r.getD m 0 + 1)]) nt
          refine cat_any (xs := (r.take m).map V.int) (ys := [.int (r.getD m 0 + 1)]) (sT _ _ e1) upd_same ?_ fun H6 c2 s6 e2 => ?_
          · rw [List.length_map, List.length_take]
            show min m r.length + 1 ≤ 5000
            omega
          · have s46 := (s5.trans sT).trans s6
            refine ⟨.ref c, rfl, .int m, rfl, _, _, rfl, rfl, _, rfl, sl_any (s46 _ _ hc4) fun H7 c3 s7 e3 => ?_⟩
            have ec : ((m : Int) + 1) = ((m + 1 : Nat) : Int) := by omega
            rw [ec, cut_from (by rw [List.length_map]; omega), ← List.map_drop] at e3
            refine cat_any (s7 _ _ e2) e3 ?_ fun H8 c4 s8 e4 => ?_
            · rw [List.length_append, List.length_map, List.length_map, List.length_take, List.length_drop]
              show min m r.length + 1 + (r.length - (m + 1)) ≤ 5000
              omega
            · have eb : (r.take m).map V.int ++ [.int (r.getD m 0 + 1)] ++ (r.drop (m + 1)).map V.int = (M17.bump r m).map V.int := by
                unfold M17.bump
                rw [List.map_append, List.map_append]
                rfl
              rw [eb] at e4
              have s48 := (s46.trans s7).trans s8
              have hd8 : Rd H8 d (.dT (tabK (rowsOf j top) g)) := .inr ⟨od, s48 _ _ (s4 _ _ (sm _ _ upd_same))⟩
              refine ⟨.ref d, rfl, .ref c4, rfl, d, _, rfl, dget hd8 e4 (mem_rows.mpr (bump_box hbox (by omega) lt)), .ref d, rfl, .ref c, rfl, d, _, rfl, dget hd8 (s48 _ _ hc4) (List.mem_of_getElem? hr2), _, _, rfl, rfl, _, rfl, ite2 (fun yes => ?_) (fun nay => ?_)⟩
              · have hit : canFall g (rowsOf j top) top = true := by
                  rw [canFall_eq]
                  refine any_hit hr2 (List.any_eq_true.mpr ⟨m, List.mem_range.mpr hm, ?_⟩)
                  unfold fallAt
                  rw [decide_eq_true lt, yes]
                  rfl
                refine ⟨s48 _ _ (s4 _ _ (sm _ _ upd_same)), ?_⟩
                have z := q _ (same_lock hd ((sm.trans s4).trans s48))
                rw [hit] at z
                exact z
              · refine ⟨_, _, rfl, s4.trans s48, ?_⟩
                rw [List.range_succ, List.any_append, no4]
                show (false || (fallAt g top r m || false)) = false
                unfold fallAt
                rw [Bool.eq_false_iff.mpr nay, Bool.and_false]
                rfl
        · refine ⟨_, _, rfl, s4, ?_⟩
          rw [List.range_succ, List.any_append, no4]
          show (false || (fallAt g top r m || false)) = false
          unfold fallAt
          rw [Bool.eq_false_iff.mpr ge]
          rfl
      · obtain ⟨y3, y4, rfl, s4, no4⟩ := hp
        refine ⟨_, _, _, rfl, sm.trans s4, any_snoc hr2 no ?_⟩
        simpa using no4
    · obtain ⟨y2, y3, y4, rfl, sm, no⟩ := hp
      rw [tab_len, List.take_length] at no
      refine ⟨sm _ _ upd_same, ?_⟩
      have z := q _ (same_lock hd sm)
      rw [canFall_eq, no] at z
      exact z
end
end K17
namespace K17
open PySem PySem.Spec PyProof.Rows L2 KX M17
/-! ### what is answered, in the heap -/
inductive RepD (H : Hp) : D → V → Prop where
  | non : RepD H .non .non
  | int (i : Int) : RepD H (.int i) (.int i)
  | str (z : String) : RepD H (.str z) (.str (Str.ofString z))
  | tup {a : Addr} {l : List D} {xs : List V} (e : H a = some (.tup xs)) (hl : l.length = xs.length) (h : ∀ (i : Nat) d x, l[i]? = some d → xs[i]? = some x → RepD H d x) : RepD H (.tup l) (.ref a)
theorem RepD.same {H H' : Hp} (s : Same H H') {d : D} {v : V} (r : RepD H d v) : RepD H' d v := by
  induction r with
  | non => exact .non
  | int i => exact .int i
  | str z => exact .str z
  | tup e hl _ ih => exact .tup (s _ _ e) hl ih
theorem rep_row {H : Hp} {a : Addr} {r : List Int} (h : H a = some (.tup (r.map V.int))) : RepD H (rowD r) (.ref a) := by
  refine .tup h (by rw [List.length_map, List.length_map]) fun i d x h1 h2 => ?_
  rw [List.getElem?_map] at h1 h2
  cases e : r[i]? with
  | none => rw [e] at h1; cases h1
  | some n =>
    rw [e] at h1 h2
    cases Option.some.inj h1
    cases Option.some.inj h2
    exact .int n
theorem rep2 {H : Hp} {a : Addr} {d1 d2 : D} {v1 v2 : V} (h : H a = some (.tup [v1, v2])) (r1 : RepD H d1 v1) (r2 : RepD H d2 v2) : RepD H (.tup [d1, d2]) (.ref a) := by
  refine .tup h rfl fun i d x h1 h2 => ?_
  match i with
  | 0 => cases Option.some.inj h1; cases Option.some.inj h2; exact r1
  | 1 => cases Option.some.inj h1; cases Option.some.inj h2; exact r2
  | i + 2 => simp at h1
theorem rep3 {H : Hp} {a : Addr} {d1 d2 d3 : D} {v1 v2 v3 : V} (h : H a = some (.tup [v1, v2, v3])) (r1 : RepD H d1 v1) (r2 : RepD H d2 v2) (r3 : RepD H d3 v3) : RepD H (.tup [d1, d2, d3]) (.ref a) := by
  refine .tup h rfl fun i d x h1 h2 => ?_
  match i with
  | 0 => cases Option.some.inj h1; cases Option.some.inj h2; exact r1
  | 1 => cases Option.some.inj h1; cases Option.some.inj h2; exact r2
  | 2 => cases Option.some.inj h1; cases Option.some.inj h2; exact r3
  | i + 3 => simp at h1
section
variable {P : Program} {w : World} {K : PySem.W.Frag} {mg : Str → Option Value} {base : Heap}
/-! ### first_fall -/
def fallF (g : List Int → Int) (s : List Int) (t : List Int) : Option (List Int × List Int) := if g t < g s then some (s, t) else none
def spFF : Sp := fun vs H Q _ => ∃ (d : Addr) (j : Nat) (top : Int) (g : List Int → Int), vs = [.ref d, .int top] ∧ H d = some (.dT (tabK (rowsOf j top) g)) ∧ j ≤ 1000 ∧ 0 ≤ top ∧ top ≤ 1000 ∧ (top + 1).toNat ^ j ≤ 1000 ∧
  ∀ H' v, Same H H' → RepD H' (fallD (progFall g (rowsOf j top) top)) v → Q v H'
theorem ok_FF {f fC fT : Addr} {fd fdC fdT : FuncData} (F : Fun K "first_fall" "first_fall" sFF f fd) (FC : Fun K "can_fall" "can_fall" sCF fC fdC) (FT : Fun K "tuples_from" "tuples_from" sTF fT fdT) (bC : Binds K fdC ["told", "top"] []) (bT : Binds K fdT ["least", "top"] [])
    (gC : mg "can_fall" = some (.ref fC)) (gT : mg "tuples_from" = some (.ref fT)) (mr : mg "range" = none) (ml : mg "len" = none) : FnOk P w K mg base CX0 2 f fd ["told", "top"] spFF := by
  have GC : FnOk P w K mg base CX0 1 fC fdC ["told", "top"] spCF := ok_CF FC mr ml
  have GT : FnOk P w K mg base CX0 1 fT fdT ["least", "top"] spTF := ok_TF FT mr
  refine F.ok scFF (fun vs H Q E h => ?_) (fun cdv A outer s H vs Q E hr h => ?_)
  · obtain ⟨d, j, top, g, rfl, _⟩ := h
    rfl
  · obtain ⟨d, j, top, g, rfl, hd, hj, h0, h1, hn, q⟩ := h
    have hu := hu_of hr
    refine ⟨_, pss_cons (ps_if (pt_not (pt_val (pe_call GC hr (by rfl) gC FC.kp bC .nil pass0 (pa_cons (pv 0) (pa_cons (pv 1) pa_nil))))) (pss_one (ps_ret pe_non)) pss_nil)
      (pss_cons (ps_lock (ps_for PassesOwn.never rfl (pi_keys (pv 0)) (pg_name (i := 2) scFF.nd rfl (.inl rfl))
        (pss_one (ps_for PassesOwn.never rfl (pi_list (pe_call GT hr (by rfl) gT FT.kp bT .nil pass0 (pa_cons (pv 2) (pa_cons (pv 1) pa_nil)))) (pg_name (i := 3) scFF.nd rfl (.inl rfl))
          (pss_one (ps_if (pt_cmpR op_lt (pe_dget hu (pv 0) (pv 3) (fun _ _ => rfl)) (pe_dget hu (pv 0) (pv 2) (fun _ _ => rfl)) (nomark _))
            (pss_one (ps_ret (pe_tup (pa_cons pe_str (pa_cons (pv 2) (pa_cons (pv 3) pa_nil)))))) pss_nil))))))
      (pss_one (ps_ret pe_non))), ?_⟩
    refine ⟨.ref d, rfl, .int top, rfl, d, j, top, g, rfl, hd, hj, fun H1 s1 => ⟨_, rfl, ?_⟩⟩
    by_cases hcf : canFall g (rowsOf j top) top = true
    · rw [hcf]
      refine iteF ?_
      have pf : progFall g (rowsOf j top) top = (rowsOf j top).findSome? fun s => (rowsFrom s top).findSome? (fallF g s) := by
        unfold progFall
        rw [if_pos hcf]
        rfl
      have hd1 := s1 _ _ hd
      refine ⟨d, _, hd1, trivial, fun od => ⟨.ref d, rfl, d, od, rfl, .inr ⟨_, upd_same, ?_⟩⟩⟩
      refine f_keysT (fun i σ H3 => ∃ y2 y3, σ = [some (.ref d), some (.int top), y2, y3] ∧ Same (upd H1 d (.frz od (.dT (tabK (rowsOf j top) g)))) H3 ∧ ((rowsOf j top).take i).findSome? (fun s => (rowsFrom s top).findSome? (fallF g s)) = none)
        ⟨none, none, rfl, Same.refl _, rfl⟩ (fun i σ H3 _ hp => ?_) (fun i kk v c σ H3 hx hc hp => ?_) (fun σ H3 hp => ?_)
      · obtain ⟨_, _, _, sm, _⟩ := hp
        exact sm _ _ upd_same
      · obtain ⟨y2, y3, rfl, sm, no⟩ := hp
        obtain ⟨r, hr2, rfl, rfl⟩ := tab_at hx
        rw [kR_V] at hc
        have hbox := mem_rows.mp (List.mem_of_getElem? hr2)
        obtain ⟨rl, rb⟩ := id hbox
        refine ⟨.ref c, rfl, .int top, rfl, c, r, top, rfl, hc, fun x hx => ⟨(rb x hx).1, Int.le_trans (rb x hx).2 h1⟩, by omega, h0, h1, by rw [rl]; exact hn, fun H4 L as s4 nL eL rw4 => ?_⟩
        refine ⟨L, rfl, ⟨_, SqL.of eL⟩, f_list (xs := as.map V.ref) (fun m σ H5 => ∃ y3, σ = [some (.ref d), some (.int top), some (.ref c), y3] ∧ Same H4 H5 ∧ ((rowsFrom r top).take m).findSome? (fallF g r) = none) ⟨y3, rfl, Same.refl _, rfl⟩ (fun m σ H5 _ hp => ?_) (fun m x σ H5 hx hp => ?_) (fun σ H5 hp => ?_)⟩
        · obtain ⟨_, _, s5, _⟩ := hp
          exact SqL.of (s5 _ _ eL)
        · obtain ⟨y3, rfl, s5, no5⟩ := hp
          obtain ⟨b, hb, rfl⟩ := refs_at hx
          have hm : m < (rowsFrom r top).length := by
            rw [← rw4.1]
            exact (List.getElem?_eq_some_iff.mp hb).1
          have ht : (rowsFrom r top)[m]? = some (rowsFrom r top)[m] := List.getElem?_eq_getElem hm
          have eb := s5 _ _ (rw4.2 m b _ hb ht)
          have tall : ∀ t ∈ rowsFrom r top, t ∈ rowsOf j top := fun t z => by
            rw [from_filter r (fun x hx => (rb x hx).1), rl] at z
            exact (List.mem_filter.mp z).1
          have tin := tall _ (List.getElem_mem hm)
          generalize (rowsFrom r top)[m] = t at ht eb tin
          have s35 := s4.trans s5
          have ec := s35 _ _ hc
          have hd5 : Rd H5 d (.dT (tabK (rowsOf j top) g)) := .inr ⟨od, s35 _ _ (sm _ _ upd_same)⟩
          refine ⟨.ref d, rfl, .ref b, rfl, d, _, rfl, dget hd5 eb tin, .ref d, rfl, .ref c, rfl, d, _, rfl, dget hd5 ec (List.mem_of_getElem? hr2), _, _, rfl, rfl, _, rfl, ite2 (fun yes => ?_) (fun nay => ?_)⟩
          · have yes := of_decide_eq_true yes
            have hit : progFall g (rowsOf j top) top = some (r, t) := by
              rw [pf]
              refine fs_hit hr2 no (fs_hit ht no5 ?_)
              unfold fallF
              rw [if_pos yes]
            refine ⟨.ref c, rfl, .ref b, rfl, line3, fun p np => ?_⟩
            have sp := same_upd (o := .tup [.str "falls", .ref c, .ref b]) np
            have sd := same_lock hd1 ((sm.trans s35).trans sp)
            refine ⟨sp _ _ (s35 _ _ (sm _ _ upd_same)), q _ _ (s1.trans sd) ?_⟩
            rw [hit]
            have keep : ∀ {e : Addr} {xs : List V}, (upd H5 p (.tup [.str "falls", .ref c, .ref b])) e = some (.tup xs) → (upd (upd H5 p (.tup [.str "falls", .ref c, .ref b])) d (.dT (tabK (rowsOf j top) g))) e = some (.tup xs) := fun {e xs} h => by
              rw [upd_ne (ne_of h (sp _ _ (s35 _ _ (sm _ _ upd_same))) (fun z => nomatch z))]
              exact h
            exact rep3 (keep upd_same) (.str "falls") (rep_row (keep (sp _ _ ec))) (rep_row (keep (sp _ _ eb)))
          · refine ⟨_, rfl, s5, fs_snoc ht no5 ?_⟩
            unfold fallF
            rw [if_neg fun z => nay (decide_eq_true z)]
        · obtain ⟨y3, rfl, s5, no5⟩ := hp
          rw [List.take_of_length_le (by rw [List.length_map, rw4.1]; exact Nat.le_refl _)] at no5
          exact ⟨_, _, rfl, sm.trans (s4.trans s5), fs_snoc hr2 no no5⟩
      · obtain ⟨y2, y3, rfl, sm, no⟩ := hp
        rw [tab_len, List.take_length] at no
        refine ⟨sm _ _ upd_same, q _ _ (s1.trans (same_lock hd1 sm)) ?_⟩
        rw [pf, no]
        exact .non
    · rw [Bool.eq_false_iff.mpr hcf]
      have pf : progFall g (rowsOf j top) top = none := by
        unfold progFall
        rw [if_neg hcf]
      refine q _ _ s1 ?_
      rw [pf]
      exact .non
/-! ### first_leap -/
def leapF (g : List Int → Int) (t : List Int) (w : Int) : Option (List Int × Int) := if g (addW t w) > g t + w then some (t, w) else none
def spFL : Sp := fun vs H Q _ => ∃ (d : Addr) (j : Nat) (top : Int) (g : List Int → Int), vs = [.ref d, .int top] ∧ H d = some (.dT (tabK (rowsOf j top) g)) ∧ 1 ≤ j ∧ j ≤ 1000 ∧ 0 ≤ top ∧ top ≤ 1000 ∧
  ∀ H' v, Same H H' → RepD H' (leapD (leap g (rowsOf j top) top)) v → Q v H'
theorem leap_eq (g : List Int → Int) (rows : List (List Int)) (top : Int) : leap g rows top = rows.findSome? fun t => (rng 1 (top - maxI t + 1)).findSome? (leapF g t) := rfl
theorem ok_FL {f : Addr} {fd : FuncData} {k : Nat} (F : Fun K "first_leap" "first_leap" sFL f fd) (mr : mg "range" = none) (mx : mg "max" = none) (mt : mg "tuple" = none) : FnOk P w K mg base CX0 (k + 1) f fd ["told", "top"] spFL := by
  refine F.ok scFL (fun vs H Q E h => ?_) (fun cdv A outer s H vs Q E hr h => ?_)
  · obtain ⟨d, j, top, g, rfl, _⟩ := h
    rfl
  · obtain ⟨d, j, top, g, rfl, hd, hj1, hj, h0, h1, q⟩ := h
    have hu := hu_of hr
    refine ⟨_, pss_cons (ps_lock (ps_for PassesOwn.never rfl (pi_keys (pv 0)) (pg_name (i := 2) scFL.nd rfl (.inl rfl))
      (pss_one (ps_for PassesOwn.never rfl (pi_range2 rfl mr (pa_cons pe_int (pa_cons (pe_op op_add (pe_op op_sub (pv 1) (pe_callB (cr_maxT rfl) (by rfl) mx (by decide +kernel) (pa_cons (pv 2) pa_nil))) pe_int) pa_nil))) (pg_name (i := 3) scFL.nd rfl (.inr rfl))
        (pss_one (ps_if (pt_cmpR op_gt (pe_dget hu (pv 0) (pe_callTy call_tuple_of (by rfl) mt (by decide +kernel) (pa_cons (pe_lc (own := [("amount", 4)]) (g := gName 4) (tt := tYes) rfl scFL.nd (pi_tup (pv 2))
              (blkOk_by (own := [("amount", 4)]) (N := ["told", "top", "t", "w", "amount"]) (sc := defScope sFL) (by decide +kernel)) (fun _ _ _ _ _ => pg_name (i := 4) scFL.nd rfl (.inl rfl)) (fun _ _ _ _ _ => pts_nil) (fun _ _ _ _ _ => pe_op op_add (pv 4) (pv 3))) pa_nil)) (fun _ _ => rfl))
            (pe_op op_add (pe_dget hu (pv 0) (pv 2) (fun _ _ => rfl)) (pv 3)) (nomark _))
          (pss_one (ps_ret (pe_tup (pa_cons pe_str (pa_cons (pv 2) (pa_cons (pv 3) pa_nil)))))) pss_nil))))))
      (pss_one (ps_ret pe_non)), ?_⟩
    refine ⟨d, _, hd, trivial, fun od => ⟨.ref d, rfl, d, od, rfl, .inr ⟨_, upd_same, ?_⟩⟩⟩
    refine f_keysT (fun i σ H3 => ∃ y2 y3, σ = [some (.ref d), some (.int top), y2, y3, none] ∧ Same (upd H d (.frz od (.dT (tabK (rowsOf j top) g)))) H3 ∧ ((rowsOf j top).take i).findSome? (fun t => (rng 1 (top - maxI t + 1)).findSome? (leapF g t)) = none)
      ⟨none, none, rfl, Same.refl _, rfl⟩ (fun i σ H3 _ hp => ?_) (fun i kk v c σ H3 hx hc hp => ?_) (fun σ H3 hp => ?_)
    · obtain ⟨_, _, _, sm, _⟩ := hp
      exact sm _ _ upd_same
    · obtain ⟨y2, y3, rfl, sm, no⟩ := hp
      obtain ⟨r, hr2, rfl, rfl⟩ := tab_at hx
      rw [kR_V] at hc
      have hbox := mem_rows.mp (List.mem_of_getElem? hr2)
      obtain ⟨rl, rb⟩ := id hbox
      refine ⟨.int top, rfl, .ref c, rfl, c, r, rfl, SqT.of hc, by omega, fun mx hm1 hm2 => ?_⟩
      have em := max_is hm1 hm2
      have mb := rb _ hm1
      subst em
      refine ⟨_, _, rfl, rfl, _, _, rfl, rfl, 1, top - maxI r + 1, rfl, ⟨by omega, by omega, by omega, by omega⟩, ?_⟩
      refine f_rng (lo := 1) (n := (top - maxI r + 1 - 1).toNat) (fun m σ H4 => ∃ y3, σ = [some (.ref d), some (.int top), some (.ref c), y3, none] ∧ Same H3 H4 ∧ ((rng 1 (top - maxI r + 1)).take m).findSome? (leapF g r) = none) ⟨y3, rfl, Same.refl _, rfl⟩ (fun m σ H4 hm hp => ?_) (fun σ H4 hp => ?_)
      · obtain ⟨y3, rfl, s4, no4⟩ := hp
        have hw : (rng 1 (top - maxI r + 1))[m]? = some (1 + (m : Int)) := rng_get hm
        have wlo : 0 ≤ 1 + (m : Int) := by omega
        have whi : 1 + (m : Int) ≤ top - maxI r := by omega
        have inb := mem_rows.mpr (addW_box hbox wlo whi)
        generalize 1 + (m : Int) = w at hw inb
        have hc4 := s4 _ _ hc
        refine ⟨.ref d, rfl, .ref c, rfl, c, rfl, ⟨_, SqT.of hc4⟩, fun D nD => ?_⟩
        have sD := same_upd (o := .lst []) nD
        refine w_tup (xs := r.map V.int) (fun i H5 => Same H4 H5 ∧ H5 D = some (.lst ((addW (r.take i) w).map V.int))) ⟨sD, upd_same⟩ (fun i H5 _ hp => SqT.of (hp.1 _ _ hc4)) (fun i x H5 hx hp => ?_) (fun H5 hp => ?_)
        · obtain ⟨s5, eD⟩ := hp
          obtain ⟨x, hx2, rfl⟩ := ints_at hx
          have hil := (List.getElem?_eq_some_iff.mp hx2).1
          refine ⟨rfl, .int x, rfl, .int w, rfl, x, w, rfl, rfl, _, eD, line_lt ?_, ?_, ?_⟩
          · unfold addW
            rw [List.length_map, List.length_map, List.length_take]
            omega
          · intro b o e
            rw [upd_ne (ne_of_none e nD)]
            exact s5 _ _ e
          · rw [upd_same, List.take_add_one, hx2]
            unfold addW
            rw [List.map_append, List.map_append]
            rfl
        · obtain ⟨s5, eD⟩ := hp
          rw [List.length_map, List.take_length] at eD
          refine ⟨D, _, rfl, .inl ⟨SqL.of eD, fun T nT => ?_⟩⟩
          have sT := same_upd (o := .tup ((addW r w).map V.int)) nT
          have s46 := s5.trans sT
          have hd6 : Rd (upd H5 T (.tup ((addW r w).map V.int))) d (.dT (tabK (rowsOf j top) g)) := .inr ⟨od, s46 _ _ (s4 _ _ (sm _ _ upd_same))⟩
          refine ⟨d, _, rfl, dget hd6 upd_same inb, .ref d, rfl, .ref c, rfl, d, _, rfl, dget hd6 (s46 _ _ hc4) (List.mem_of_getElem? hr2), .int w, rfl, _, _, rfl, rfl, _, _, rfl, rfl, _, rfl, ite2 (fun yes => ?_) (fun nay => ?_)⟩
          · have yes := of_decide_eq_true yes
            have hit : leap g (rowsOf j top) top = some (r, w) := by
              rw [leap_eq]
              refine fs_hit hr2 no (fs_hit hw no4 ?_)
              unfold leapF
              rw [if_pos yes]
            refine ⟨.ref c, rfl, .int w, rfl, line3, fun p np => ?_⟩
            have sp := same_upd (o := .tup [.str "leaps", .ref c, .int w]) np
            have s47 := s46.trans sp
            refine ⟨s47 _ _ (s4 _ _ (sm _ _ upd_same)), q _ _ (same_lock hd ((sm.trans s4).trans s47)) ?_⟩
            rw [hit]
            have keep : ∀ {e : Addr} {xs : List V} {H9 : Hp}, H9 d = some (.frz od (.dT (tabK (rowsOf j top) g))) → H9 e = some (.tup xs) → (upd H9 d (.dT (tabK (rowsOf j top) g))) e = some (.tup xs) := fun {e xs H9} h9 h => by
              rw [upd_ne (ne_of h h9 (fun z => nomatch z))]
              exact h
            have h9 := s47 _ _ (s4 _ _ (sm _ _ upd_same))
            exact rep3 (keep h9 upd_same) (.str "leaps") (rep_row (keep h9 (s47 _ _ hc4))) (.int w)
          · refine ⟨_, rfl, s4.trans s46, fs_snoc hw no4 ?_⟩
            unfold leapF
            rw [if_neg fun z => nay (decide_eq_true z)]
      · obtain ⟨y3, rfl, s4, no4⟩ := hp
        rw [List.take_of_length_le (l := rng 1 (top - maxI r + 1)) (by rw [rng_len]; exact Nat.le_refl _)] at no4
        exact ⟨_, _, rfl, sm.trans s4, fs_snoc hr2 no no4⟩
    · obtain ⟨y2, y3, rfl, sm, no⟩ := hp
      rw [tab_len, List.take_length] at no
      refine ⟨sm _ _ upd_same, q _ _ (same_lock hd sm) ?_⟩
      rw [leap_eq, no]
      exact .non
end
end K17
namespace K17
open PySem PySem.Spec PyProof.Rows L2 KX M17
theorem pe_callFK {X : Cx} {P : Program} {w : World} {K : PySem.W.Frag} {mg : Str → Option Value} {base : Heap} {i k : Nat} {x : Str} {p pos : Pos} {e : Expr} {es : List Expr} {t : TA} (hX : X.prog = P ∧ X.w = w ∧ X.K = K ∧ X.mg = mg ∧ X.base = base) (hr : Room k X.A) (hN : X.N[i]? = some x) (hv : Vis X.env.scope x) (ha : PA X (e :: es) t)
    (hd : (x == ("__debug__" : Str)) = false := by decide) (hcd : (x == ("__classdict__" : Str)) = false := by decide)
    (he : starEach (e :: es) X.env = (false, eval e X.env) :: starEach es X.env := by rfl) (hpl : (backTo pos (starEach es X.env)).any (·.1) = false := by rfl) :
    PE X (.Call (.Name x p) (e :: es) [] pos) (tCallF P w K mg base k i t) := by
  obtain ⟨rfl, rfl, rfl, rfl, rfl⟩ := hX
  exact pe_callF hr hN hv ha hd hcd he hpl
theorem scAT : FnScope ["rule", "judges", "top", "row"] ["rule", "judges", "top"] (defScope sAT) := ⟨rfl, rfl, rfl, by decide +kernel, rfl, by decide +kernel, by decide +kernel⟩
theorem scB : FnScope ["what", "number"] ["what", "number"] (defScope sBound) := ⟨rfl, rfl, rfl, by decide +kernel, rfl, by decide +kernel, by decide +kernel⟩
abbrev sInit : Stmt := inClass (topS 2) 0
theorem scI : FnScope ["self", "what"] ["self", "what"] (defScope sInit) := ⟨rfl, rfl, rfl, by decide +kernel, rfl, by decide +kernel, by decide +kernel⟩
theorem scVB : FnScope ["judges", "top", "many", "k"] ["judges", "top"] (defScope sVB) := ⟨rfl, rfl, rfl, by decide +kernel, rfl, by decide +kernel, by decide +kernel⟩
theorem scVF : FnScope ["rule", "judges", "top", "told", "t", "fall"] ["rule", "judges", "top"] (defScope sVF) := ⟨rfl, rfl, rfl, by decide +kernel, rfl, by decide +kernel, by decide +kernel⟩
theorem scNF : FnScope ["rule", "judges", "top", "told", "row"] ["rule", "judges", "top"] (defScope sNF) := ⟨rfl, rfl, rfl, by decide +kernel, rfl, by decide +kernel, by decide +kernel⟩
theorem rep_zero (j : Nat) (x : Int) : (List.replicate ((j : Int)).toNat [V.int x]).flatten = (List.replicate j x).map V.int := by
  rw [Int.toNat_natCast]
  induction j with
  | zero => rfl
  | succ j ih =>
    rw [List.replicate_succ, List.flatten_cons, ih, List.replicate_succ]
    rfl
theorem rep_any {K : PySem.W.Frag} {H : Hp} {a : Addr} {x : Int} {j : Nat} {Q : VK} (ha : H a = some (.tup [.int x])) (h1 : 1 ≤ j) (h2 : j ≤ 1000) (q : ∀ H' c, Same H H' → H' c = some (.tup ((List.replicate j x).map V.int)) → Q (.ref c) H') : rRepA K (.ref a) (.int j) H Q := by
  refine ⟨a, j, _, rfl, rfl, SqT.of ha, List.cons_ne_nil _ _, by omega, by omega, by show 1 ≤ 1000; omega, fun e => ?_, fun _ p np => ?_⟩
  · have e1 : j = 1 := by omega
    subst e1
    exact q _ _ (Same.refl H) ha
  · refine q _ _ (same_upd np) ?_
    rw [upd_same, rep_zero]
theorem zeros_rows (j : Nat) (top : Int) : rowsFrom (List.replicate j 0) top = rowsOf j top := rfl
section
variable {P : Program} {w : World} {K : PySem.W.Frag} {mg : Str → Option Value} {base : Heap}
/-- a rule that is handed about: told of any row of the box -/
def spG (g : List Int → Int) (j : Nat) (top : Int) : Sp := fun vs H Q _ => ∃ (b : Addr) (r : List Int), vs = [.ref b] ∧ H b = some (.tup (r.map V.int)) ∧ InBox j top r ∧ Q (.int (g r)) H
def RuleOk (P : Program) (w : World) (K : PySem.W.Frag) (mg : Str → Option Value) (base : Heap) (H : Hp) (f : Addr) (g : List Int → Int) (j : Nat) (top : Int) : Prop := ∀ H', Same H H' → CallAt P w K mg base 1 f H' (spG g j top)
theorem RuleOk.same {H H' : Hp} {f : Addr} {g : List Int → Int} {j : Nat} {top : Int} (h : RuleOk P w K mg base H f g j top) (s : Same H H') : RuleOk P w K mg base H' f g j top := fun H2 s2 => h H2 (s.trans s2)
/-! ### asked_tuples -/
def spAT (P : Program) (w : World) (K : PySem.W.Frag) (mg : Str → Option Value) (base : Heap) : Sp := fun vs H Q _ => ∃ (f : Addr) (j : Nat) (top : Int) (g : List Int → Int), vs = [.ref f, .int j, .int top] ∧ RuleOk P w K mg base H f g j top ∧ 1 ≤ j ∧ j ≤ 1000 ∧ 0 ≤ top ∧ top ≤ 1000 ∧ (top + 1).toNat ^ j ≤ 1000 ∧
  ∀ H' d, Same H H' → H d = none → H' d = some (.dT (tabK (rowsOf j top) g)) → Q (.ref d) H'
theorem ok_AT {f fT : Addr} {fd fdT : FuncData} (F : Fun K "asked_tuples" "asked_tuples" sAT f fd) (FT : Fun K "tuples_from" "tuples_from" sTF fT fdT) (bT : Binds K fdT ["least", "top"] []) (gT : mg "tuples_from" = some (.ref fT)) (mr : mg "range" = none) : FnOk P w K mg base CX0 2 f fd ["rule", "judges", "top"] (spAT P w K mg base) := by
  have GT : FnOk P w K mg base CX0 1 fT fdT ["least", "top"] spTF := ok_TF FT mr
  refine F.ok scAT (fun vs H Q E h => ?_) (fun cdv A outer s H vs Q E hr h => ?_)
  · obtain ⟨r, j, top, g, rfl, _⟩ := h
    rfl
  · obtain ⟨fr, j, top, g, rfl, hR, hj1, hj, h0, h1, hn, q⟩ := h
    have hu := hu_of hr
    refine ⟨_, pss_one (ps_ret (pe_dcT (own := [("row", 3)]) (g := gName 3) (tt := tYes) (tk := tVar 3) hu rfl scAT.nd (pi_list (pe_call GT hr (by rfl) gT FT.kp bT .nil pass0 (pa_cons (pe_op op_repA (pe_tup (pa_cons pe_int pa_nil)) (pv 1)) (pa_cons (pv 2) pa_nil))))
      (blkOk_by (own := [("row", 3)]) (N := ["rule", "judges", "top", "row"]) (sc := defScope sAT) (by decide +kernel)) (fun _ _ _ _ _ => pg_name (i := 3) scAT.nd rfl (.inl rfl)) (fun _ _ _ _ _ => pts_nil) (fun _ _ _ _ _ => pv 3)
      (fun _ _ _ _ _ => pe_callFK (P := P) (w := w) (K := K) (mg := mg) (base := base) (k := 1) (i := 0) ⟨rfl, rfl, rfl, rfl, rfl⟩ hr (by rfl) (by first | exact Or.inl rfl | exact Or.inr (Or.inl rfl) | exact Or.inr (Or.inr rfl)) (pa_cons (pv 3) pa_nil)))), ?_⟩
    refine ⟨line1, fun t nt => ⟨.int j, rfl, rep_any upd_same hj1 hj fun H1 z s1 ez => ?_⟩⟩
    have s01 := (same_upd (o := .tup [.int 0]) nt).trans s1
    refine ⟨.int top, rfl, z, List.replicate j 0, top, rfl, ez, fun x hx => ?_, by rw [List.length_replicate]; exact hj, h0, h1, by rw [List.length_replicate]; exact hn, fun H2 L as s2 nL eL rw2 => ?_⟩
    · rw [List.eq_of_mem_replicate hx]
      exact ⟨by decide, by decide⟩
    · rw [zeros_rows] at rw2
      have s02 := s01.trans s2
      refine ⟨L, rfl, ⟨_, SqL.of eL⟩, fun D nD => ?_⟩
      have sD := same_upd (o := .dT []) nD
      have hlen : (rowsOf j top).length ≤ 1000 := by
        rw [rows_len]
        exact hn
      refine w_list (xs := as.map V.ref) (fun i H3 => Same H2 H3 ∧ H3 D = some (.dT (tabK ((rowsOf j top).take i) g))) ⟨sD, upd_same⟩ (fun i H3 _ hp => SqL.of (hp.1 _ _ eL)) (fun i x H3 hx hp => ?_) (fun H3 hp => ?_)
      · obtain ⟨s3, eD⟩ := hp
        obtain ⟨c, hc, rfl⟩ := refs_at hx
        have hi : i < (rowsOf j top).length := by
          rw [← rw2.1]
          exact (List.getElem?_eq_some_iff.mp hc).1
        have hr2 : (rowsOf j top)[i]? = some (rowsOf j top)[i] := List.getElem?_eq_getElem hi
        have ec := s3 _ _ (rw2.2 i c _ hc hr2)
        have hbox := mem_rows.mp (List.getElem_mem hi)
        have hnew : (rowsOf j top)[i] ∉ (rowsOf j top).take i := fun hm => by
          obtain ⟨m, hm1, hm2⟩ := List.getElem_of_mem hm
          rw [List.length_take] at hm1
          rw [List.getElem_take] at hm2
          have z := (List.getElem_inj (rows_nodup j top)).mp hm2
          omega
        generalize (rowsOf j top)[i] = r at hr2 ec hbox hnew
        have hR3 := (hR.same (s02.trans s3)) H3 (Same.refl _)
        refine ⟨rfl, .ref c, rfl, fr, rfl, hR3.1, .ref c, rfl, spG g j top, hR3, c, r, rfl, ec, hbox, tabK ((rowsOf j top).take i) g, kR r, c, rfl, by rw [kR_V]; exact ec, eD, line_lt (by rw [tab_len, List.length_take]; omega), ?_, ?_⟩
        · intro b o e
          rw [upd_ne (ne_of_none e nD)]
          exact s3 _ _ e
        · rw [upd_same, put_new hnew, List.take_add_one, hr2]
          rfl
      · obtain ⟨s3, eD⟩ := hp
        rw [List.length_map, rw2.1, List.take_length] at eD
        exact q H3 D (s02.trans s3) ((s02.trans (Same.refl _)).free nD) eD
end
end K17
namespace K17
open PySem PySem.Spec PyProof.Rows L2 KX M17
/-- what the written part says of TooMany -/
structure ErrT (K : PySem.W.Frag) (mg : Str → Option Value) (C fI : Addr) (fdI : FuncData) : Prop where
  ox : OexC K C
  iC : PySem.W.findIn K (.ref C) "__init__" = some (some (.ref fI))
  tI : PySem.W.typeIn K (.ref fI) = some (.type "function")
  nf : PySem.W.findIn K (.ref C) "what" = some none
  gC : mg "TooMany" = some (.ref C)
  FI : Fun K "__init__" "TooMany.__init__" sInit fI fdI
  bI : Binds K fdI ["self", "what"] []
structure LimT (K : PySem.W.Frag) (w : World) (mg : Str → Option Value) (pL : Addr) : Prop where
  gL : mg "LIMITS" = some (.ref pL)
  top : KDct K w pL "top" (.int 100)
  judges : KDct K w pL "judges" (.int 3)
  tables : KDct K w pL "tables" (.int 1000)
section
variable {P : Program} {w : World} {K : PySem.W.Frag} {mg : Str → Option Value} {base : Heap}
/-! ### TooMany(what) -/
def spI (K : PySem.W.Frag) : Sp := fun vs H Q _ => ∃ (a C : Addr) (v : V), vs = [.ref a, v] ∧ OexC K C ∧ PySem.W.findIn K (.ref C) "what" = some none ∧ H a = some (exo a C none) ∧ ∀ dx, H dx = none → dx ≠ a → Q .non (upd (upd H dx (exd dx [("what", v)])) a (exo a C (some dx)))
theorem ok_I {f : Addr} {fd : FuncData} {k : Nat} (F : Fun K "__init__" "TooMany.__init__" sInit f fd) : FnOk P w K mg base CX0 (k + 1) f fd ["self", "what"] (spI K) := by
  refine F.ok scI (fun vs H Q E h => ?_) (fun cdv A outer s H vs Q E hr h => ?_)
  · obtain ⟨a, C, v, rfl, _⟩ := h
    rfl
  · obtain ⟨a, C, v, rfl, ox, nf, ha, q⟩ := h
    refine ⟨_, pss_one (ps_ost (pv 0) (pv 1)), ?_⟩
    exact ⟨v, rfl, .ref a, rfl, a, C, rfl, ox, nf, .inl ⟨ha, fun dx nd ne => q dx nd ne⟩⟩
/-! ### bound_check -/
def Told (H : Hp) (C : Addr) (z : Str) (E : XK) : Prop := ∀ H' d, Same H H' → H d = none → H' d = some (.xd [("what", .str z)]) → E (.ref C) (some d) H'
theorem Told.same {H H' : Hp} {C : Addr} {z : Str} {E : XK} (h : Told H C z E) (s : Same H H') : Told H' C z E := fun H2 d s2 n e => h H2 d (s.trans s2) (s.free n) e
def spB (K : PySem.W.Frag) (w : World) (pL C : Addr) : Sp := fun vs H Q E => ∃ (z : Str) (n lim : Int), vs = [.str z, .int n] ∧ KDct K w pL z (.int lim) ∧ (n ≤ lim → Q .non H) ∧ (lim < n → Told H C z E)
theorem ok_B {f C fI pL : Addr} {fd fdI : FuncData} (F : Fun K "bound_check" "bound_check" sBound f fd) (T : ErrT K mg C fI fdI) (gL : mg "LIMITS" = some (.ref pL)) : FnOk P w K mg base (CX P w) 3 f fd ["what", "number"] (spB K w pL C) := by
  have GI : FnOk P w K mg base CX0 1 fI fdI ["self", "what"] (spI K) := ok_I T.FI
  refine F.okX scB (fun vs H Q E h => ?_) (fun cdv A outer s H vs Q E hr h => ?_)
  · obtain ⟨z, n, lim, rfl, _⟩ := h
    rfl
  · obtain ⟨z, n, lim, rfl, kd, q1, q2⟩ := h
    refine ⟨_, pss_one (ps_if (pt_cmpR op_gt (pv 1) (pe_ix ix_kdict (pe_glob (v := .ref pL) rfl gL rfl) (pv 0) (fun _ _ => rfl)) (nomark _))
      (pss_one (ps_raise rfl (takes_of rfl rfl rfl rfl) (pmk_oex T.ox T.iC T.tI GI hr T.bI .nil (fun _ _ _ _ _ _ _ h => h.elim) rfl T.gC (pa_cons (pv 0) pa_nil)))) pss_nil), ?_⟩
    refine ⟨.int n, rfl, .str z, rfl, pL, z, .int lim, rfl, rfl, kd, n, lim, rfl, rfl, _, rfl, ite2 (fun yes => ?_) (fun nay => ?_)⟩
    · have yes := of_decide_eq_true yes
      refine ⟨.str z, rfl, by show 1 ≤ 1000; decide, fun a na => ⟨a, C, .str z, rfl, T.ox, T.nf, upd_same, fun dx nd ne => ⟨rfl, dx, [("what", .str z)], upd_same, ?_, ?_, ?_⟩⟩⟩
      · rw [upd_ne ne, upd_same]
      · rw [upd_ne ne] at nd
        exact nd
      · refine q2 (by omega) _ dx ?_ ?_ upd_same
        · intro b o e
          have b1 : b ≠ a := ne_of_none e na
          rw [upd_ne ne] at nd
          have b2 : b ≠ dx := ne_of_none e nd
          rw [upd_ne b2, del_ne b1, upd_ne b1, upd_ne b2, upd_ne b1]
          exact e
        · rw [upd_ne ne] at nd
          exact nd
    · have nay : ¬ n > lim := fun z => nay (decide_eq_true z)
      exact q1 (by omega)
/-! ### vote_bounds -/
def bnd (j : Nat) (top : Int) : Option Str := if 100 < top then some "top" else if 3 < j then some "judges" else if 1000 < (top + 1).toNat ^ j then some "tables" else none
def spVB (C : Addr) : Sp := fun vs H Q E => ∃ (j : Nat) (top : Int), vs = [.int j, .int top] ∧ j ≤ 1000 ∧ 0 ≤ top ∧ top ≤ 1000 ∧ (bnd j top = none → Q .non H) ∧ (∀ z, bnd j top = some z → Told H C z E)
theorem ok_VB {f fB C fI pL : Addr} {fd fdB fdI : FuncData} (F : Fun K "vote_bounds" "vote_bounds" sVB f fd) (FB : Fun K "bound_check" "bound_check" sBound fB fdB) (bB : Binds K fdB ["what", "number"] []) (gB : mg "bound_check" = some (.ref fB)) (T : ErrT K mg C fI fdI) (L : LimT K w mg pL) (mr : mg "range" = none) :
    FnOk P w K mg base (CX P w) 4 f fd ["judges", "top"] (spVB C) := by
  have GB : FnOk P w K mg base (CX P w) 3 fB fdB ["what", "number"] (spB K w pL C) := ok_B FB T L.gL
  refine F.okX scVB (fun vs H Q E h => ?_) (fun cdv A outer s H vs Q E hr h => ?_)
  · obtain ⟨j, top, rfl, _⟩ := h
    rfl
  · obtain ⟨j, top, rfl, hj, h0, h1, q1, q2⟩ := h
    refine ⟨_, pss_cons (ps_expr (pe_callS GB hr rfl gB FB.kp bB (fun σ => passAt (takes_of rfl rfl rfl rfl) σ) (pa_cons pe_str (pa_cons (pv 1) pa_nil))))
      (pss_cons (ps_expr (pe_callS GB hr rfl gB FB.kp bB (fun σ => passAt (takes_of rfl rfl rfl rfl) σ) (pa_cons pe_str (pa_cons (pv 0) pa_nil))))
      (pss_cons (ps_set (i := 2) scVB.nd rfl (.inl rfl) pe_int)
      (pss_cons (ps_for (passes_of rfl) rfl (pi_range1 rfl mr (pa_cons (pv 0) pa_nil)) (pg_name (i := 3) scVB.nd rfl (.inl rfl))
        (pss_one (ps_set (i := 2) scVB.nd rfl (.inl rfl) (pe_op op_mul (pv 2) (pe_op op_add (pv 1) pe_int)))))
      (pss_one (ps_expr (pe_callS GB hr rfl gB FB.kp bB (fun σ => passAt (takes_of rfl rfl rfl rfl) σ) (pa_cons pe_str (pa_cons (pv 2) pa_nil)))))))), ?_⟩
    refine ⟨.int top, rfl, _, top, 100, rfl, L.top, fun a1 => ?_, fun a1 => q2 _ (by unfold bnd; rw [if_pos a1])⟩
    refine ⟨.int j, rfl, _, j, 3, rfl, L.judges, fun a2 => ?_, fun a2 => q2 _ (by unfold bnd; rw [if_neg (by omega), if_pos (by omega)])⟩
    refine ⟨.int j, rfl, j, rfl, by omega, by omega, f_rng (lo := 0) (fun i σ H3 => ∃ y3, σ = [some (.int j), some (.int top), some (.int (((top + 1).toNat ^ i : Nat) : Int)), y3] ∧ H3 = H) ⟨none, rfl, rfl⟩ (fun i σ H3 hi hp => ?_) (fun σ H3 hp => ?_)⟩
    · obtain ⟨y3, rfl, rfl⟩ := hp
      rw [Int.toNat_natCast] at hi
      have big : (top + 1).toNat ^ i ≤ 101 ^ 3 := Nat.le_trans (Nat.pow_le_pow_left (show (top + 1).toNat ≤ 101 by omega) i) (Nat.pow_le_pow_right (by decide) (by omega))
      have big2 : (top + 1).toNat ^ i ≤ 1030301 := big
      refine ⟨.int _, rfl, .int top, rfl, _, _, rfl, rfl, _, _, rfl, rfl, .inl ⟨by omega, by omega⟩, some (.int (0 + i)), ?_, rfl⟩
      show [some (V.int j), some (V.int top), some (V.int ((((top + 1).toNat ^ i : Nat) : Int) * (top + 1))), some (V.int (0 + (i : Int)))] = [some (V.int j), some (V.int top), some (V.int (((top + 1).toNat ^ (i + 1) : Nat) : Int)), some (V.int (0 + i))]
      have e : (((top + 1).toNat ^ i : Nat) : Int) * (top + 1) = (((top + 1).toNat ^ (i + 1) : Nat) : Int) := by
        rw [Nat.pow_succ, Int.natCast_mul]
        congr 1
        omega
      rw [e]
    · obtain ⟨y3, rfl, rfl⟩ := hp
      rw [Int.toNat_natCast]
      refine ⟨.int _, rfl, _, _, 1000, rfl, L.tables, fun a3 => q1 ?_, fun a3 => q2 _ ?_⟩
      · unfold bnd
        rw [if_neg (by omega), if_neg (by omega), if_neg (by omega)]
      · unfold bnd
        rw [if_neg (by omega), if_neg (by omega), if_pos (by omega)]
end
end K17
namespace K17
open PySem PySem.Spec PyProof.Rows L2 KX M17
/-- the defs of the program, as they stand -/
structure Prg (K : PySem.W.Frag) (mg : Str → Option Value) (fB fVB fT fAT fCF fFF fFL : Addr) (dB dVB dT dAT dCF dFF dFL : FuncData) : Prop where
  FB : Fun K "bound_check" "bound_check" sBound fB dB
  bB : Binds K dB ["what", "number"] []
  gB : mg "bound_check" = some (.ref fB)
  FVB : Fun K "vote_bounds" "vote_bounds" sVB fVB dVB
  bVB : Binds K dVB ["judges", "top"] []
  gVB : mg "vote_bounds" = some (.ref fVB)
  FT : Fun K "tuples_from" "tuples_from" sTF fT dT
  bT : Binds K dT ["least", "top"] []
  gT : mg "tuples_from" = some (.ref fT)
  FAT : Fun K "asked_tuples" "asked_tuples" sAT fAT dAT
  bAT : Binds K dAT ["rule", "judges", "top"] []
  gAT : mg "asked_tuples" = some (.ref fAT)
  FCF : Fun K "can_fall" "can_fall" sCF fCF dCF
  bCF : Binds K dCF ["told", "top"] []
  gCF : mg "can_fall" = some (.ref fCF)
  FFF : Fun K "first_fall" "first_fall" sFF fFF dFF
  bFF : Binds K dFF ["told", "top"] []
  gFF : mg "first_fall" = some (.ref fFF)
  FFL : Fun K "first_leap" "first_leap" sFL fFL dFL
  bFL : Binds K dFL ["told", "top"] []
  gFL : mg "first_leap" = some (.ref fFL)
/-- the built-ins that are not written over -/
structure Blt (mg : Str → Option Value) : Prop where
  range : mg "range" = none
  len : mg "len" = none
  max : mg "max" = none
  min : mg "min" = none
  tuple : mg "tuple" = none
  sum : mg "sum" = none
  sorted : mg "sorted" = none
  all : mg "all" = none
  isin : mg "isinstance" = none
  str : mg "str" = none
  int : mg "int" = none
  bool : mg "bool" = none
  dict : mg "dict" = none
  list : mg "list" = none
theorem bnd_le {j : Nat} {top : Int} (h : bnd j top = none) : (top + 1).toNat ^ j ≤ 1000 := by
  unfold bnd at h
  by_cases a : 100 < top
  · rw [if_pos a] at h
    cases h
  · rw [if_neg a] at h
    by_cases b : 3 < j
    · rw [if_pos b] at h
      cases h
    · rw [if_neg b] at h
      by_cases c : 1000 < (top + 1).toNat ^ j
      · rw [if_pos c] at h
        cases h
      · omega
theorem lock_tup {H : Hp} {d e : Addr} {od : Obj} {u : HO} {kvs : List (List Key × V)} {xs : List V} (h9 : H d = some (.frz od u)) (h : H e = some (.tup xs)) : (upd H d (.dT kvs)) e = some (.tup xs) := by
  rw [upd_ne (ne_of h h9 (fun z => nomatch z))]
  exact h
theorem rep_box {j : Nat} {top t : Int} (h0 : 0 ≤ t) (h1 : t ≤ top) : InBox j top (List.replicate j t) := ⟨List.length_replicate, fun x hx => by
  rw [List.eq_of_mem_replicate hx]
  exact ⟨h0, h1⟩⟩
section
variable {P : Program} {w : World} {K : PySem.W.Frag} {mg : Str → Option Value} {base : Heap}
/-- what a search is asked with, and how it ends -/
def spSearch (P : Program) (w : World) (K : PySem.W.Frag) (mg : Str → Option Value) (base : Heap) (C : Addr) (ans : (List Int → Int) → Nat → Int → D) : Sp := fun vs H Q E => ∃ (f : Addr) (j : Nat) (top : Int) (g : List Int → Int), vs = [.ref f, .int j, .int top] ∧ 1 ≤ j ∧ j ≤ 1000 ∧ 0 ≤ top ∧ top ≤ 1000 ∧ RuleOk P w K mg base H f g j top ∧
  (bnd j top = none → ∀ H' v, Same H H' → RepD H' (ans g j top) v → Q v H') ∧ (∀ z, bnd j top = some z → Told H C z E)
variable {fB fVB fT fAT fCF fFF fFL C fI pL : Addr} {dB dVB dT dAT dCF dFF dFL dI : FuncData}
theorem ok_VF {f : Addr} {fd : FuncData} (F : Fun K "vote_fault" "vote_fault" sVF f fd) (R : Prg K mg fB fVB fT fAT fCF fFF fFL dB dVB dT dAT dCF dFF dFL) (B : Blt mg) (T : ErrT K mg C fI dI) (L : LimT K w mg pL) :
    FnOk P w K mg base (CX P w) 5 f fd ["rule", "judges", "top"] (spSearch P w K mg base C progD) := by
  have GVB : FnOk P w K mg base (CX P w) 4 fVB dVB ["judges", "top"] (spVB C) := ok_VB R.FVB R.FB R.bB R.gB T L B.range
  have GAT : FnOk P w K mg base CX0 2 fAT dAT ["rule", "judges", "top"] (spAT P w K mg base) := ok_AT R.FAT R.FT R.bT R.gT B.range
  have GFF : FnOk P w K mg base CX0 2 fFF dFF ["told", "top"] spFF := ok_FF R.FFF R.FCF R.FT R.bCF R.bT R.gCF R.gT B.range B.len
  have GFL : FnOk P w K mg base CX0 2 fFL dFL ["told", "top"] spFL := ok_FL R.FFL B.range B.max B.tuple
  refine F.okX scVF (fun vs H Q E h => ?_) (fun cdv A outer s H vs Q E hr h => ?_)
  · obtain ⟨f, j, top, g, rfl, _⟩ := h
    rfl
  · obtain ⟨fr, j, top, g, rfl, hj1, hj, h0, h1, hR, q1, q2⟩ := h
    have hu := hu_of hr
    refine ⟨_, pss_cons (ps_expr (pe_callS GVB hr rfl R.gVB R.FVB.kp R.bVB (fun σ => passAt (takes_of rfl rfl rfl rfl) σ) (pa_cons (pv 1) (pa_cons (pv 2) pa_nil))))
      (PSs.nox (pss_cons (ps_set (i := 3) scVF.nd rfl (.inl rfl) (pe_call GAT (hr.mono (by decide)) rfl R.gAT R.FAT.kp R.bAT .nil pass0 (pa_cons (pv 0) (pa_cons (pv 1) (pa_cons (pv 2) pa_nil)))))
      (pss_cons (ps_for PassesOwn.never rfl (pi_range1 rfl B.range (pa_cons (pe_op op_add (pv 2) pe_int) pa_nil)) (pg_name (i := 4) scVF.nd rfl (.inl rfl))
        (pss_one (ps_if (pt_cmpR op_ne (pe_dget hu (pv 3) (pe_op op_repA (pe_tup (pa_cons (pv 4) pa_nil)) (pv 1)) (fun _ _ => rfl)) (pv 4) (nomark _)) (pss_one (ps_ret (pe_tup (pa_cons pe_str (pa_cons (pv 4) pa_nil))))) pss_nil)))
      (pss_cons (ps_set (i := 5) scVF.nd rfl (.inl rfl) (pe_call GFF (hr.mono (by decide)) rfl R.gFF R.FFF.kp R.bFF .nil pass0 (pa_cons (pv 3) (pa_cons (pv 2) pa_nil))))
      (pss_cons (ps_if (pt_cmpR op_notN (pv 5) pe_non (nomark _)) (pss_one (ps_ret (pv 5))) pss_nil)
      (pss_one (ps_ret (pe_call GFL (hr.mono (by decide)) rfl R.gFL R.FFL.kp R.bFL .nil pass0 (pa_cons (pv 3) (pa_cons (pv 2) pa_nil)))))))))), ?_⟩
    refine ⟨.int j, rfl, .int top, rfl, j, top, rfl, hj, h0, h1, fun hb => ?_, q2⟩
    have q := q1 hb
    have hn := bnd_le hb
    refine ⟨.ref fr, rfl, .int j, rfl, .int top, rfl, fr, j, top, g, rfl, hR, hj1, hj, h0, h1, hn, fun H1 d s1 nd hd => ?_⟩
    refine ⟨.int top, rfl, top, 1, rfl, rfl, top + 1, rfl, by omega, by omega, f_rng (lo := 0) (fun i σ H3 => ∃ y4, σ = [some (.ref fr), some (.int j), some (.int top), some (.ref d), y4, none] ∧ Same H1 H3 ∧ ((rng 0 (top + 1)).take i).find? (fun t => decide (g (List.replicate j t) ≠ t)) = none)
      ⟨none, rfl, Same.refl _, rfl⟩ (fun i σ H3 hi hp => ?_) (fun σ H3 hp => ?_)⟩
    · obtain ⟨y4, rfl, s3, no⟩ := hp
      have hw : (rng 0 (top + 1))[i]? = some (0 + (i : Int)) := rng_get (by omega)
      have t0 : 0 ≤ 0 + (i : Int) := by omega
      have t1 : 0 + (i : Int) ≤ top := by omega
      generalize 0 + (i : Int) = t at hw t0 t1
      refine ⟨.ref d, rfl, .int t, rfl, line1, fun p np => ⟨.int j, rfl, rep_any upd_same hj1 hj fun H4 z s4 ez => ?_⟩⟩
      have s34 := (same_upd (o := .tup [.int t]) np).trans s4
      have hd4 : Rd H4 d (.dT (tabK (rowsOf j top) g)) := .inl (s34 _ _ (s3 _ _ hd))
      refine ⟨d, _, rfl, dget hd4 ez (mem_rows.mpr (rep_box t0 t1)), .int t, rfl, rfl, _, rfl, ?_⟩
      by_cases e : g (List.replicate j t) = t
      · rw [decide_eq_true (show V.int (g (List.replicate j t)) = V.int t by rw [e])]
        refine iteF ⟨_, rfl, s3.trans s34, find_snoc hw no ?_⟩
        exact decide_eq_false fun z => z e
      · rw [decide_eq_false (show ¬ V.int (g (List.replicate j t)) = V.int t from fun z => e (V.int.inj z))]
        refine iteT ⟨.int t, rfl, line2, fun p np => q _ _ (((s1.trans s3).trans s34).trans (same_upd np)) ?_⟩
        have hit : unan g j top = some t := find_hit hw no (decide_eq_true e)
        unfold progD
        rw [hit]
        exact rep2 upd_same (.str "unanimous") (.int t)
    · obtain ⟨y4, rfl, s3, no⟩ := hp
      rw [List.take_of_length_le (l := rng 0 (top + 1)) (by rw [rng_len]; omega)] at no
      have un : unan g j top = none := no
      have hd3 := s3 _ _ hd
      refine ⟨.ref d, rfl, .int top, rfl, d, j, top, g, rfl, hd3, hj, h0, h1, hn, fun H4 v s4 rv => ?_⟩
      refine ⟨v, rfl, rfl, _, rfl, ?_⟩
      cases hf : progFall g (rowsOf j top) top with
      | some p =>
        rw [hf] at rv
        obtain ⟨s, t⟩ := p
        have ne : v ≠ .non := fun z => by
          rw [z] at rv
          cases rv
        rw [decide_eq_false ne]
        refine iteT ⟨v, rfl, q _ _ ((s1.trans s3).trans s4) ?_⟩
        unfold progD
        rw [un, hf]
        exact rv
      | none =>
        rw [hf] at rv
        have ev : v = .non := by cases rv; rfl
        subst ev
        refine iteF ?_
        refine ⟨.ref d, rfl, .int top, rfl, d, j, top, g, rfl, s4 _ _ hd3, hj1, hj, h0, h1, fun H5 v5 s5 rv5 => q _ _ (((s1.trans s3).trans s4).trans s5) ?_⟩
        unfold progD
        rw [un, hf]
        exact rv5
end
end K17
namespace K17
open PySem PySem.Spec PyProof.Rows L2 KX M17
section
variable {P : Program} {w : World} {K : PySem.W.Frag} {mg : Str → Option Value} {base : Heap}
variable {fB fVB fT fAT fCF fFF fFL C fI pL : Addr} {dB dVB dT dAT dCF dFF dFL dI : FuncData}
theorem ok_NF {f : Addr} {fd : FuncData} (F : Fun K "named_fault" "named_fault" sNF f fd) (R : Prg K mg fB fVB fT fAT fCF fFF fFL dB dVB dT dAT dCF dFF dFL) (B : Blt mg) (T : ErrT K mg C fI dI) (L : LimT K w mg pL) :
    FnOk P w K mg base (CX P w) 5 f fd ["rule", "judges", "top"] (spSearch P w K mg base C namedD) := by
  have GVB : FnOk P w K mg base (CX P w) 4 fVB dVB ["judges", "top"] (spVB C) := ok_VB R.FVB R.FB R.bB R.gB T L B.range
  have GAT : FnOk P w K mg base CX0 2 fAT dAT ["rule", "judges", "top"] (spAT P w K mg base) := ok_AT R.FAT R.FT R.bT R.gT B.range
  refine F.okX scNF (fun vs H Q E h => ?_) (fun cdv A outer s H vs Q E hr h => ?_)
  · obtain ⟨f, j, top, g, rfl, _⟩ := h
    rfl
  · obtain ⟨fr, j, top, g, rfl, hj1, hj, h0, h1, hR, q1, q2⟩ := h
    have hu := hu_of hr
    refine ⟨_, pss_cons (ps_expr (pe_callS GVB hr rfl R.gVB R.FVB.kp R.bVB (fun σ => passAt (takes_of rfl rfl rfl rfl) σ) (pa_cons (pv 1) (pa_cons (pv 2) pa_nil))))
      (PSs.nox (pss_cons (ps_set (i := 3) scNF.nd rfl (.inl rfl) (pe_call GAT (hr.mono (by decide)) rfl R.gAT R.FAT.kp R.bAT .nil pass0 (pa_cons (pv 0) (pa_cons (pv 1) (pa_cons (pv 2) pa_nil)))))
      (pss_cons (ps_lock (ps_for PassesOwn.never rfl (pi_keys (pv 3)) (pg_name (i := 4) scNF.nd rfl (.inl rfl))
        (pss_one (ps_if (pt_not (pt_chain op_le op_le (pe_callB (cr_minT rfl) (by rfl) B.min (by decide +kernel) (pa_cons (pv 4) pa_nil)) (pe_dget hu (pv 3) (pv 4) (fun _ _ => rfl)) (pe_callB (cr_maxT rfl) (by rfl) B.max (by decide +kernel) (pa_cons (pv 4) pa_nil))))
          (pss_one (ps_ret (pv 4))) pss_nil))))
      (pss_one (ps_ret pe_non))))), ?_⟩
    refine ⟨.int j, rfl, .int top, rfl, j, top, rfl, hj, h0, h1, fun hb => ?_, q2⟩
    have q := q1 hb
    have hn := bnd_le hb
    refine ⟨.ref fr, rfl, .int j, rfl, .int top, rfl, fr, j, top, g, rfl, hR, hj1, hj, h0, h1, hn, fun H1 d s1 nd hd => ?_⟩
    refine ⟨d, _, hd, trivial, fun od => ⟨.ref d, rfl, d, od, rfl, .inr ⟨_, upd_same, ?_⟩⟩⟩
    refine f_keysT (fun i σ H3 => ∃ y4, σ = [some (.ref fr), some (.int j), some (.int top), some (.ref d), y4] ∧ Same (upd H1 d (.frz od (.dT (tabK (rowsOf j top) g)))) H3 ∧ ((rowsOf j top).take i).find? (outB g) = none)
      ⟨none, rfl, Same.refl _, rfl⟩ (fun i σ H3 _ hp => ?_) (fun i kk v c σ H3 hx hc hp => ?_) (fun σ H3 hp => ?_)
    · obtain ⟨_, _, sm, _⟩ := hp
      exact sm _ _ upd_same
    · obtain ⟨y4, rfl, sm, no⟩ := hp
      obtain ⟨r, hr2, rfl, rfl⟩ := tab_at hx
      rw [kR_V] at hc
      have hin := List.mem_of_getElem? hr2
      obtain ⟨rl, rb⟩ := mem_rows.mp hin
      have hd3 : Rd H3 d (.dT (tabK (rowsOf j top) g)) := .inr ⟨od, sm _ _ upd_same⟩
      have stay : outB g r = false → ((rowsOf j top).take (i + 1)).find? (outB g) = none := fun z => find_snoc hr2 no z
      have out : outB g r = true → H3 d = some (.frz od (.dT (tabK (rowsOf j top) g))) ∧ Q (.ref c) (upd H3 d (.dT (tabK (rowsOf j top) g))) := fun z => by
        refine ⟨sm _ _ upd_same, q _ _ (s1.trans (same_lock hd sm)) ?_⟩
        unfold namedD
        rw [find_hit hr2 no z]
        exact rep_row (lock_tup (sm _ _ upd_same) hc)
      refine ⟨.ref c, rfl, c, r, rfl, SqT.of hc, by omega, fun m hm1 hm2 => ?_⟩
      have em := min_is hm1 hm2
      subst em
      refine ⟨.ref d, rfl, .ref c, rfl, d, _, rfl, dget hd3 hc hin, _, _, rfl, rfl, _, rfl, ite2 (fun a1 => ?_) (fun a1 => ?_)⟩
      · have a1 := of_decide_eq_true a1
        refine ⟨.ref c, rfl, c, r, rfl, SqT.of hc, by omega, fun m hm3 hm4 => ?_⟩
        have em := max_is hm3 hm4
        subst em
        refine ⟨_, _, rfl, rfl, _, rfl, ?_⟩
        by_cases a2 : g r ≤ maxI r
        · rw [decide_eq_true a2]
          refine iteF ⟨_, rfl, sm, stay ?_⟩
          unfold outB
          rw [decide_eq_false (by omega), decide_eq_false (by omega)]
          rfl
        · rw [decide_eq_false a2]
          refine iteT ⟨.ref c, rfl, out ?_⟩
          unfold outB
          rw [decide_eq_true (show maxI r < g r by omega), Bool.or_true]
      · have a1 : ¬ minI r ≤ g r := fun z => a1 (decide_eq_true z)
        refine ⟨_, rfl, iteT ⟨.ref c, rfl, out ?_⟩⟩
        unfold outB
        rw [decide_eq_true (show g r < minI r by omega)]
        rfl
    · obtain ⟨y4, rfl, sm, no⟩ := hp
      rw [tab_len, List.take_length] at no
      refine ⟨sm _ _ upd_same, q _ _ (s1.trans (same_lock hd sm)) ?_⟩
      unfold namedD
      rw [no]
      exact .non
end
end K17
namespace K17
open PySem PySem.Spec PyProof.Rows L2 KX M17
abbrev sSrc : Stmt := topS 16
abbrev sPick : Stmt := topS 17
abbrev sOne : Stmt := topS 18
theorem scSrc : FnScope ["script", "at", "fold", "cell", "own", "great", "left"] ["script", "at"] (defScope sSrc) := ⟨rfl, rfl, rfl, by decide +kernel, rfl, by decide +kernel, by decide +kernel⟩
theorem scP : FnScope ["s", "many", "told"] ["s", "many"] (defScope sPick) := ⟨rfl, rfl, rfl, by decide +kernel, rfl, by decide +kernel, by decide +kernel⟩
theorem scO : FnScope ["s", "things"] ["s", "things"] (defScope sOne) := ⟨rfl, rfl, rfl, by decide +kernel, rfl, by decide +kernel, by decide +kernel⟩
/-- the source's four numbers -/
def Src (H : Hp) (a : Addr) : Prop := ∃ x0 x1 x2 x3 : Int, H a = some (.lst [.int x0, .int x1, .int x2, .int x3])
def Upto (a : Addr) (H H' : Hp) : Prop := ∀ b, b ≠ a → H' b = H b
theorem Upto.refl (a : Addr) (H : Hp) : Upto a H H := fun _ _ => rfl
theorem Upto.trans {a : Addr} {H H1 H2 : Hp} (h : Upto a H H1) (h2 : Upto a H1 H2) : Upto a H H2 := fun b n => (h2 b n).trans (h b n)
theorem upto_upd {a : Addr} {H : Hp} {o : HO} : Upto a H (upd H a o) := fun b n => upd_ne n
theorem PE.imp {X : Cx} {e : Expr} {t t' : TE} (h : PE X e t) (i : ∀ σ H Q, t' σ H Q → t σ H Q) : PE X e t' := ⟨fun pins s σ H Q I q => h.run pins s σ H Q I (i σ H Q q)⟩
theorem PS.imp {X : Cx} {e : Stmt} {t t' : TS} (h : PS X e t) (i : ∀ D σ H, t' D σ H → t D σ H) : PS X e t' := ⟨fun pins s σ H D I q => h.run pins s σ H D I (i D σ H q)⟩
/-- a statement that stirs the source -/
def tStir : TS := fun D σ H => ∃ a, σ[0]? = some (some (.ref a)) ∧ Src H a ∧ ∀ H', Upto a H H' → Src H' a → D.nx σ H'
section
variable {P : Program} {w : World} {K : PySem.W.Frag} {mg : Str → Option Value} {base : Heap}
def spPick : Sp := fun vs H Q _ => ∃ (a : Addr) (many : Int), vs = [.ref a, .int many] ∧ Src H a ∧ many ≤ 1000 ∧ ∀ (r : Int) H', 0 ≤ r → (many ≤ 1 → r = 0) → (1 < many → r < many) → Upto a H H' → Src H' a → Q (.int r) H'
theorem ok_Pick {f : Addr} {fd : FuncData} {k : Nat} (F : Fun K "_law_pick" "_law_pick" sPick f fd) (mi : mg "int" = none) : FnOk P w K mg base CX0 (k + 1) f fd ["s", "many"] spPick := by
  refine F.ok scP (fun vs H Q E h => ?_) (fun cdv A outer s H vs Q E hr h => ?_)
  · obtain ⟨a, many, rfl, _⟩ := h
    rfl
  · obtain ⟨a, many, rfl, ⟨x0, x1, x2, x3, ha⟩, hm, q⟩ := h
    refine ⟨_, pss_cons (ps_if (pt_cmpR op_le (pv 1) pe_int (nomark _)) (pss_one (ps_ret pe_int)) pss_nil)
      (pss_cons (ps_if (pt_cmpR op_gt (pe_ix ix_list (pv 0) pe_int (fun _ _ => rfl)) pe_int (nomark _))
        (pss_cons (ps_set (i := 2) scP.nd rfl (.inl rfl) (pe_op op_mod (pe_callTy call_int1 (by rfl) mi (by decide +kernel) (pa_cons (pe_ix ix_list (pv 0) pe_int (fun _ _ => rfl)) pa_nil)) (pv 1)))
        (pss_cons (ps_asg (pe_op op_fdiv (pe_ix ix_list (pv 0) pe_int (fun _ _ => rfl)) (pv 1)) (pg_sub (pv 0) pe_int set_list))
        (pss_one (ps_ret (pv 2))))) pss_nil)
      (pss_cons (PS.imp (t' := tStir) (ps_asg (pe_op op_add (pe_ix ix_list (pv 0) pe_int (fun _ _ => rfl)) pe_int) (pg_sub (pv 0) pe_int set_list)) fun D σ H ⟨a, hs, ⟨x0, x1, x2, x3, ha⟩, q⟩ => ⟨.ref a, hs, a, _, 3, .int x3, rfl, rfl, SqL.of ha, atI_nat (j := 3) rfl, _, _, rfl, rfl, .ref a, hs, a, _, 3, 3, rfl, rfl, ha, rfl, q _ upto_upd ⟨_, _, _, _, upd_same⟩⟩)
      (pss_cons (PS.imp (t' := tStir) (ps_asg (pe_op op_mod (pe_callTy call_int1 (by rfl) mi (by decide +kernel) (pa_cons (pe_op op_add (pe_op op_add (pe_op op_mul (pe_ix ix_list (pv 0) pe_int (fun _ _ => rfl)) pe_int) (pe_op op_mul (pe_ix ix_list (pv 0) pe_int (fun _ _ => rfl)) pe_int)) pe_int) pa_nil)) pe_int) (pg_sub (pv 0) pe_int set_list)) fun D σ H ⟨a, hs, ⟨x0, x1, x2, x3, ha⟩, q⟩ =>
        ⟨.ref a, hs, a, _, 1, .int x1, rfl, rfl, SqL.of ha, atI_nat (j := 1) rfl, _, _, rfl, rfl, .inr ⟨by decide, by decide⟩, .ref a, hs, a, _, 3, .int x3, rfl, rfl, SqL.of ha, atI_nat (j := 3) rfl, _, _, rfl, rfl, .inr ⟨by decide, by decide⟩, _, _, rfl, rfl, _, _, rfl, rfl, .inl ⟨_, rfl, _, _, rfl, rfl, by show (0 : Int) < 2147483647; decide, .ref a, hs, a, _, 1, 1, rfl, rfl, ha, rfl, q _ upto_upd ⟨_, _, _, _, upd_same⟩⟩⟩)
      (pss_cons (PS.imp (t' := tStir) (ps_asg (pe_op op_mod (pe_callTy call_int1 (by rfl) mi (by decide +kernel) (pa_cons (pe_op op_add (pe_op op_add (pe_op op_mul (pe_ix ix_list (pv 0) pe_int (fun _ _ => rfl)) pe_int) (pe_op op_mul (pe_ix ix_list (pv 0) pe_int (fun _ _ => rfl)) pe_int)) (pe_ix ix_list (pv 0) pe_int (fun _ _ => rfl))) pa_nil)) pe_int) (pg_sub (pv 0) pe_int set_list)) fun D σ H ⟨a, hs, ⟨x0, x1, x2, x3, ha⟩, q⟩ =>
        ⟨.ref a, hs, a, _, 2, .int x2, rfl, rfl, SqL.of ha, atI_nat (j := 2) rfl, _, _, rfl, rfl, .inr ⟨by decide, by decide⟩, .ref a, hs, a, _, 1, .int x1, rfl, rfl, SqL.of ha, atI_nat (j := 1) rfl, _, _, rfl, rfl, .inr ⟨by decide, by decide⟩, _, _, rfl, rfl, .ref a, hs, a, _, 3, .int x3, rfl, rfl, SqL.of ha, atI_nat (j := 3) rfl, _, _, rfl, rfl, .inl ⟨_, rfl, _, _, rfl, rfl, by show (0 : Int) < 2147483629; decide, .ref a, hs, a, _, 2, 2, rfl, rfl, ha, rfl, q _ upto_upd ⟨_, _, _, _, upd_same⟩⟩⟩)
      (pss_one (ps_ret (pe_op op_mod (pe_callTy call_int1 (by rfl) mi (by decide +kernel) (pa_cons (pe_op op_add (pe_op op_fdiv (pe_ix ix_list (pv 0) pe_int (fun _ _ => rfl)) pe_int) (pe_op op_fdiv (pe_ix ix_list (pv 0) pe_int (fun _ _ => rfl)) pe_int)) pa_nil)) (pv 1)))))))), ?_⟩
    refine ⟨.int many, rfl, _, _, rfl, rfl, _, rfl, ite2 (fun a1 => ?_) (fun a1 => ?_)⟩
    · have a1 := of_decide_eq_true a1
      exact q 0 H (by decide) (fun _ => rfl) (fun z => by omega) (Upto.refl a H) ⟨x0, x1, x2, x3, ha⟩
    · have a1 : ¬ many ≤ 1 := fun z => a1 (decide_eq_true z)
      refine ⟨.ref a, rfl, a, _, 0, .int x0, rfl, rfl, SqL.of ha, atI_nat (j := 0) rfl, _, _, rfl, rfl, _, rfl, ite2 (fun a2 => ?_) (fun a2 => ?_)⟩
      · refine ⟨.ref a, rfl, a, _, 0, .int x0, rfl, rfl, SqL.of ha, atI_nat (j := 0) rfl, .inl ⟨x0, rfl, .int many, rfl, _, _, rfl, rfl, by show (0 : Int) < many; omega, ?_⟩⟩
        refine ⟨.ref a, rfl, a, _, 0, .int x0, rfl, rfl, SqL.of ha, atI_nat (j := 0) rfl, .int many, rfl, _, _, rfl, rfl, ⟨by omega, by omega⟩, .ref a, rfl, a, _, 0, 0, rfl, rfl, ha, rfl, .int (x0 % many), rfl, ?_⟩
        exact q _ _ (Int.emod_nonneg _ (by omega)) (fun z => absurd z a1) (fun _ => Int.emod_lt_of_pos _ (by omega)) upto_upd ⟨_, _, _, _, upd_same⟩
      · refine ⟨a, rfl, ⟨x0, x1, x2, x3, ha⟩, fun H1 u1 s1 => ⟨a, rfl, s1, fun H2 u2 s2 => ⟨a, rfl, s2, fun H3 u3 s3 => ?_⟩⟩⟩
        have u := (u1.trans u2).trans u3
        have s3' := s3
        obtain ⟨z0, z1, z2, z3, e3⟩ := s3
        refine ⟨.ref a, rfl, a, _, 1, .int z1, rfl, rfl, SqL.of e3, atI_nat (j := 1) rfl, _, _, rfl, rfl, ⟨by decide, by decide⟩, .ref a, rfl, a, _, 2, .int z2, rfl, rfl, SqL.of e3, atI_nat (j := 2) rfl, _, _, rfl, rfl, ⟨by decide, by decide⟩, _, _, rfl, rfl, .inl ⟨_, rfl, .int many, rfl, _, _, rfl, rfl, by show (0 : Int) < many; omega, ?_⟩⟩
        exact q _ _ (Int.emod_nonneg _ (by omega)) (fun z => absurd z a1) (fun _ => Int.emod_lt_of_pos _ (by omega)) u s3'
/-! ### one of a list -/
def spOne : Sp := fun vs H Q _ => ∃ (a b : Addr) (xs : List V), vs = [.ref a, .ref b] ∧ Src H a ∧ H b = some (.lst xs) ∧ b ≠ a ∧ 0 < xs.length ∧ xs.length ≤ 1000 ∧ ∀ x H', x ∈ xs → Upto a H H' → Src H' a → Q x H'
theorem ok_One {f fP : Addr} {fd fdP : FuncData} (F : Fun K "_law_one" "_law_one" sOne f fd) (FP : Fun K "_law_pick" "_law_pick" sPick fP fdP) (bP : Binds K fdP ["s", "many"] []) (gP : mg "_law_pick" = some (.ref fP)) (mi : mg "int" = none) (ml : mg "len" = none) : FnOk P w K mg base CX0 2 f fd ["s", "things"] spOne := by
  have GP : FnOk P w K mg base CX0 1 fP fdP ["s", "many"] spPick := ok_Pick FP mi
  refine F.ok scO (fun vs H Q E h => ?_) (fun cdv A outer s H vs Q E hr h => ?_)
  · obtain ⟨a, b, xs, rfl, _⟩ := h
    rfl
  · obtain ⟨a, b, xs, rfl, hs, hb, ne, h0, h1, q⟩ := h
    refine ⟨_, pss_one (ps_ret (pe_ix ix_list (pv 1) (pe_call GP hr (by rfl) gP FP.kp bP .nil pass0 (pa_cons (pv 0) (pa_cons (pe_callB call_len_seq (by rfl) ml PySem.boot_len (pa_cons (pv 1) pa_nil)) pa_nil))) (fun _ _ => rfl))), ?_⟩
    refine ⟨.ref b, rfl, .ref a, rfl, .ref b, rfl, b, xs, rfl, .inl (SqL.of hb), a, xs.length, rfl, hs, by omega, fun r H' r0 r1 r2 u s' => ?_⟩
    have hr1 : r.toNat < xs.length := by
      by_cases c : (xs.length : Int) ≤ 1
      · have := r1 c
        omega
      · have := r2 (by omega)
        omega
    have eb : H' b = some (.lst xs) := (u b ne).trans hb
    have er : (r.toNat : Int) = r := by omega
    refine ⟨b, xs, r, xs[r.toNat], rfl, rfl, SqL.of eb, ?_, q _ _ (List.getElem_mem hr1) u s'⟩
    have z := atI_nat (List.getElem?_eq_getElem hr1)
    rw [er] at z
    exact z
/-! ### the source -/
def spSrc (K : PySem.W.Frag) : Sp := fun vs H Q _ => ∃ (a : Addr) (ns : List Int), vs = [.ref a, .int 0] ∧ SqL K H a (ns.map V.int) ∧ ns.length ≤ 63 ∧ ∀ H' p, Same H H' → H p = none → Src H' p → Q (.ref p) H'
theorem ok_Src {f : Addr} {fd : FuncData} {k : Nat} (F : Fun K "_law_source" "_law_source" sSrc f fd) (mi : mg "int" = none) (ml : mg "len" = none) : FnOk P w K mg base CX0 (k + 1) f fd ["script", "at"] (spSrc K) := by
  refine F.ok scSrc (fun vs H Q E h => ?_) (fun cdv A outer s H vs Q E hr h => ?_)
  · obtain ⟨a, ns, rfl, _⟩ := h
    rfl
  · obtain ⟨a, ns, rfl, ha, hl, q⟩ := h
    refine ⟨_, pss_cons (ps_set (i := 2) scSrc.nd rfl (.inl rfl) pe_int)
      (pss_cons (ps_for PassesOwn.never rfl (pi_list (pe_slice sl_list (pv 0) po_n (po_some pe_int))) (pg_name (i := 3) scSrc.nd rfl (.inl rfl))
        (pss_one (ps_set (i := 2) scSrc.nd rfl (.inl rfl) (pe_op op_mod (pe_op op_add (pe_op op_add (pe_op op_mul (pv 2) pe_int) (pe_callTy call_int1 (by rfl) mi (by decide +kernel) (pa_cons (pv 3) pa_nil))) pe_int) pe_int))))
      (pss_cons (ps_set (i := 4) scSrc.nd rfl (.inl rfl) (PE.imp (t' := fun σ H Q => σ[0]? = some (some (.ref a)) ∧ σ[1]? = some (some (.int 0)) ∧ SqL K H a (ns.map V.int) ∧ ∀ own : Int, Q (.int own) H) (pe_ifExp (pt_cmpR op_lt (pv 1) (pe_callB call_len_seq (by rfl) ml PySem.boot_len (pa_cons (pv 0) pa_nil)) (nomark _)) (pe_callTy call_int1 (by rfl) mi (by decide +kernel) (pa_cons (pe_ix ix_list (pv 0) (pv 1) (fun _ _ => rfl)) pa_nil)) pe_int)
          fun σ H Q ⟨e0, e1, hq, q⟩ => by
            refine ⟨.int 0, e1, .ref a, e0, a, _, rfl, .inl hq, _, _, rfl, rfl, _, rfl, ite2 (fun lt => ?_) (fun _ => q 0)⟩
            have lt := of_decide_eq_true lt
            rw [List.length_map] at lt
            have lt : 0 < ns.length := by omega
            exact ⟨.ref a, e0, .int 0, e1, a, _, 0, .int ns[0], rfl, rfl, hq, atI_nat (j := 0) (by rw [List.getElem?_map, List.getElem?_eq_getElem lt]; rfl), .inl ⟨_, rfl, q _⟩⟩))
      (pss_cons (ps_set (i := 5) scSrc.nd rfl (.inl rfl) (pe_op op_pow pe_int pe_int))
      (pss_cons (ps_set (i := 4) scSrc.nd rfl (.inl rfl) (PE.imp (t' := fun σ H Q => (∃ own : Int, σ[4]? = some (some (.int own))) ∧ σ[5]? = some (some (.int (10 ^ 64))) ∧ ∀ own : Int, Q (.int own) H) (pe_op op_mod (pv 4) (pe_op op_mulW (pe_op op_mulW (pe_op op_mulW (pe_op op_mulW (pv 5) (pv 5)) (pv 5)) (pv 5)) (pv 5)))
          fun σ H Q ⟨⟨own, e4⟩, e5, q⟩ => by
            have b1 : ((10 : Int) ^ 64).natAbs < 2 ^ 213 := by decide +kernel
            exact ⟨_, e4, _, e5, _, e5, _, _, rfl, rfl, wide_mul b1 b1 (by decide) (by decide) (by decide), _, e5, _, _, rfl, rfl, wide_mul (wide_lt b1 b1) b1 (by decide) (by decide) (by decide), _, e5, _, _, rfl, rfl, wide_mul (wide_lt (wide_lt b1 b1) b1) b1 (by decide) (by decide) (by decide), _, e5, _, _, rfl, rfl, wide_mul (wide_lt (wide_lt (wide_lt b1 b1) b1) b1) b1 (by decide) (by decide) (by decide), _, _, rfl, rfl, by show (0 : Int) < 10 ^ 64 * 10 ^ 64 * 10 ^ 64 * 10 ^ 64 * 10 ^ 64; decide +kernel, q _⟩))
      (pss_cons (ps_set (i := 6) scSrc.nd rfl (.inl rfl) (PE.imp (t' := fun σ H Q => (∃ own : Int, σ[4]? = some (some (.int own))) ∧ ∀ own : Int, Q (.int own) H) (pe_ifExp (pt_cmpR op_ge (pv 4) (pe_op op_pow pe_int pe_int) (nomark _)) (pv 4) pe_int)
          fun σ H Q ⟨⟨own, e4⟩, q⟩ => ⟨_, e4, _, _, rfl, rfl, ⟨by decide, by decide, by decide⟩, _, _, rfl, rfl, _, rfl, ite2 (fun _ => ⟨_, e4, q _⟩) (fun _ => q 0)⟩))
      (pss_one (ps_ret (pe_lst (pa_cons (pv 6) (pa_cons (pe_op op_mod (pe_op op_add (pe_op op_add (pv 2) (pe_op op_mul pe_int (pv 1))) pe_int) pe_int)
        (pa_cons (pe_op op_mod (pe_op op_add (pe_op op_add (pe_op op_fdivW (pv 2) pe_int) (pe_op op_mul pe_int (pv 1))) pe_int) pe_int) (pa_cons pe_int pa_nil)))))))))))), ?_⟩
    refine ⟨.ref a, rfl, 63, rfl, a, _, rfl, ha, fun c nc => ?_⟩
    have sc := same_upd (o := .lst (cutV (ns.map V.int) none (some 63))) nc
    have hc : (upd H c (.lst (cutV (ns.map V.int) none (some 63)))) c = some (.lst (cutV (ns.map V.int) none (some 63))) := upd_same
    have allInt : ∀ (i : Nat) x, (cutV (ns.map V.int) none (some 63))[i]? = some x → ∃ n, x = .int n := by
      intro i x hx
      have hm := List.mem_of_getElem? hx
      unfold cutV at hm
      have hm2 := List.mem_of_mem_drop (List.mem_of_mem_take hm)
      obtain ⟨n, _, e⟩ := List.mem_map.mp hm2
      exact ⟨n, e.symm⟩
    generalize cutV (ns.map V.int) none (some 63) = cells at sc hc allInt
    refine ⟨c, rfl, ⟨_, SqL.of hc⟩, f_list (xs := cells) (fun i σ H3 => ∃ (fold : Int) (y3 : Option V), σ = [some (.ref a), some (.int 0), some (.int fold), y3, none, none, none] ∧ H3 = upd H c (.lst cells)) ⟨0, none, rfl, rfl⟩ (fun i σ H3 _ hp => ?_) (fun i x σ H3 hx hp => ?_) (fun σ H3 hp => ?_)⟩
    · obtain ⟨_, _, _, rfl⟩ := hp
      exact SqL.of hc
    · obtain ⟨fold, y3, rfl, rfl⟩ := hp
      obtain ⟨n, rfl⟩ := allInt i x hx
      exact ⟨.int fold, rfl, _, _, rfl, rfl, .inr ⟨by decide, by decide⟩, .int n, rfl, .inl ⟨n, rfl, _, _, rfl, rfl, _, _, rfl, rfl, _, _, rfl, rfl, by show (0 : Int) < 2305843009213693951; decide, _, _, rfl, rfl⟩⟩
    · obtain ⟨fold, y3, rfl, rfl⟩ := hp
      refine ⟨rfl, rfl, sc.seq ha, fun own => ⟨_, _, rfl, rfl, ⟨by decide, by decide, by decide⟩, ⟨own, rfl⟩, rfl, fun own => ⟨⟨own, rfl⟩, fun left => ?_⟩⟩⟩
      have b2 : ((2147483647 : Int)).natAbs < 2 ^ 32 := by decide
      refine ⟨.int left, rfl, .int fold, rfl, .int 0, rfl, _, _, rfl, rfl, .inl ⟨by decide, by decide⟩, _, _, rfl, rfl, _, _, rfl, rfl, _, _, rfl, rfl, by show (0 : Int) < 2147483647; decide,
        .int fold, rfl, _, _, rfl, rfl, wide_div (by decide) b2 (by decide) (by decide), .int 0, rfl, _, _, rfl, rfl, .inl ⟨by decide, by decide⟩, _, _, rfl, rfl, _, _, rfl, rfl, _, _, rfl, rfl, by show (0 : Int) < 2147483629; decide, line_le (Nat.le_of_ble_eq_true rfl), fun p np => ?_⟩
      exact q _ p (sc.trans (same_upd np)) (sc.free np) ⟨_, _, _, _, upd_same⟩
end
end K17
namespace K17
open PySem PySem.Spec PyProof.Rows L2 KX M17
abbrev sSame : Stmt := topS 19
abbrev sFault : Stmt := topS 20
theorem scSame : FnScope ["answer", "due", "key", "k"] ["answer", "due"] (defScope sSame) := ⟨rfl, rfl, rfl, by decide +kernel, rfl, by decide +kernel, by decide +kernel⟩
theorem scFt : FnScope ["error"] ["error"] (defScope sFault) := ⟨rfl, rfl, rfl, by decide +kernel, rfl, by decide +kernel, by decide +kernel⟩
theorem ixTK {X : Cx} {K : PySem.W.Frag} (e : X.K = K) : IxR X (rIxT K) := e ▸ ix_tup
theorem ixLK {X : Cx} {K : PySem.W.Frag} (e : X.K = K) : IxR X (rIxL K) := e ▸ ix_list
theorem minTK {X : Cx} {K : PySem.W.Frag} (e : X.K = K) (hc : X.calm = true) : CallR X (.builtin "min") (rMinT K) := e ▸ cr_minT hc
theorem maxTK {X : Cx} {K : PySem.W.Frag} (e : X.K = K) (hc : X.calm = true) : CallR X (.builtin "max") (rMaxT K) := e ▸ cr_maxT hc
/-! ### equal data -/
def tyD : D → String
  | .non => "NoneType"
  | .int _ => "int"
  | .str _ => "str"
  | .tup _ => "tuple"
def depLe : Nat → D → Prop
  | 0, .tup _ => False
  | n + 1, .tup l => l.length ≤ 1000 ∧ ∀ (i : Nat) d, l[i]? = some d → depLe n d
  | _, _ => True
theorem isi_d {K : PySem.W.Frag} {H : Hp} {d : D} {v : V} {n : String} {b : Bool} {Q : VK} (r : RepD H d v) (hd : d ≠ .non) (k : kitB (tyD d) n = some b) (q : Q (.bl b) H) : rIsi K [v, .ty n] H Q := by
  cases r with
  | non => exact absurd rfl hd
  | int i => exact ⟨_, _, _, _, b, rfl, .ty n, .base (.int i), kit_ty k, q⟩
  | str z => exact ⟨_, _, _, _, b, rfl, .ty n, .base (.str _), kit_ty k, q⟩
  | tup e hl h => exact ⟨_, _, _, _, b, rfl, .ty n, .base (.tup e), kit_ty k, q⟩
theorem kIS : kitB "int" "str" = some false := by decide +kernel
theorem kII : kitB "int" "int" = some true := by decide +kernel
theorem kIB : kitB "int" "bool" = some false := by decide +kernel
theorem kSS : kitB "str" "str" = some true := by decide +kernel
theorem kTS : kitB "tuple" "str" = some false := by decide +kernel
theorem kTI : kitB "tuple" "int" = some false := by decide +kernel
theorem kTD : kitB "tuple" "dict" = some false := by decide +kernel
theorem kTT : kitB "tuple" "tuple" = some true := by decide +kernel
theorem kTL : kitB "tuple" "list" = some false := by decide +kernel
/-- isinstance(x, T), x data in slot i -/
def tIs (i : Nat) (n : String) : TE := fun σ H Q => ∃ d v b, σ[i]? = some (some v) ∧ RepD H d v ∧ d ≠ .non ∧ kitB (tyD d) n = some b ∧ Q (.bl b) H
theorem isiI {K : PySem.W.Frag} {i : Nat} {n : String} {σ : L2.St} {H : Hp} {Q : VK} (h : tIs i n σ H Q) : tCB (rIsi K) (tCons (tVar i) (tCons (tC (.ty n)) tNil)) σ H Q := by
  obtain ⟨d, v, b, e, r, hd, k, q⟩ := h
  have z : rIsi K [v, .ty n] H Q := isi_d r hd k q
  exact ⟨v, e, z⟩
section
variable {P : Program} {w : World} {K : PySem.W.Frag} {mg : Str → Option Value} {base : Heap}
def spSame (n : Nat) : Sp := fun vs H Q _ => ∃ (x y : V) (d : D), vs = [x, y] ∧ RepD H d x ∧ RepD H d y ∧ depLe n d ∧ ∀ H', Same H H' → Q (.bl true) H'
theorem ok_Same0 {f : Addr} {fd : FuncData} {k : Nat} (F : Fun K "_law_same" "_law_same" sSame f fd) (B : Blt mg) : FnOk P w K mg base CX0 (k + 1) f fd ["answer", "due"] (spSame 0) := by
  refine F.ok scSame (fun vs H Q E h => ?_) (fun cdv A outer s H vs Q E hr h => ?_)
  · obtain ⟨x, y, d, rfl, _⟩ := h
    rfl
  · obtain ⟨x, y, d, rfl, rx, ry, hd, q⟩ := h
    refine ⟨_, pss_cons (ps_if (pt_cmpR op_isN (pv 1) pe_non (nomark _)) (pss_one (ps_ret (pe_cmpR op_isN (pv 0) pe_non (nomark _)))) pss_nil)
      (pss_cons (ps_if (pt_val (PE.imp (t' := tIs 1 "str") (pe_callB call_isi (by rfl) B.isin (by decide +kernel) (pa_cons (pv 1) (pa_cons (pe_bltn (v := .ty "str") (by rfl) B.str (by decide +kernel) rfl) pa_nil))) (fun σ H Q h => isiI h)))
        (pss_one (ps_ret (pe_and (PE.imp (t' := tIs 0 "str") (pe_callB call_isi (by rfl) B.isin (by decide +kernel) (pa_cons (pv 0) (pa_cons (pe_bltn (v := .ty "str") (by rfl) B.str (by decide +kernel) rfl) pa_nil))) (fun σ H Q h => isiI h)) (pe_one (pe_cmpR op_eq (pv 0) (pv 1) (nomark _)))))) pss_nil)
      (pss_cons (ps_if (pt_val (PE.imp (t' := tIs 1 "int") (pe_callB call_isi (by rfl) B.isin (by decide +kernel) (pa_cons (pv 1) (pa_cons (pe_bltn (v := .ty "int") (by rfl) B.int (by decide +kernel) rfl) pa_nil))) (fun σ H Q h => isiI h)))
        (pss_one (ps_ret (pe_and (PE.imp (t' := tIs 0 "int") (pe_callB call_isi (by rfl) B.isin (by decide +kernel) (pa_cons (pv 0) (pa_cons (pe_bltn (v := .ty "int") (by rfl) B.int (by decide +kernel) rfl) pa_nil))) (fun σ H Q h => isiI h))
          (pe_and (pe_cmpR op_eq (PE.imp (t' := tIs 0 "bool") (pe_callB call_isi (by rfl) B.isin (by decide +kernel) (pa_cons (pv 0) (pa_cons (pe_bltn (v := .ty "bool") (by rfl) B.bool (by decide +kernel) rfl) pa_nil))) (fun σ H Q h => isiI h)) (PE.imp (t' := tIs 1 "bool") (pe_callB call_isi (by rfl) B.isin (by decide +kernel) (pa_cons (pv 1) (pa_cons (pe_bltn (v := .ty "bool") (by rfl) B.bool (by decide +kernel) rfl) pa_nil))) (fun σ H Q h => isiI h)) (nomark _))
            (pe_one (pe_cmpR op_eq (pv 0) (pv 1) (nomark _))))))) pss_nil)
      (pss_cons ps_never (pss_cons ps_never (pss_one ps_never))))), ?_⟩
    refine ⟨y, rfl, rfl, _, rfl, ?_⟩
    cases rx with
    | non =>
      cases ry
      exact iteT ⟨_, rfl, rfl, q H (Same.refl H)⟩
    | int i =>
      cases ry
      have nn : D.int i ≠ .non := fun z => nomatch z
      refine iteF ⟨_, _, false, rfl, .int i, nn, kIS, _, rfl, ?_⟩
      refine iteF ⟨_, _, true, rfl, .int i, nn, kII, _, rfl, ?_⟩
      refine iteT ⟨_, _, true, rfl, .int i, nn, kII, _, rfl, ?_⟩
      refine iteT ⟨_, _, false, rfl, .int i, nn, kIB, _, _, false, rfl, .int i, nn, kIB, rfl, _, rfl, ?_⟩
      refine iteT ⟨_, rfl, _, rfl, rfl, ?_⟩
      rw [decide_eq_true rfl]
      exact q H (Same.refl H)
    | str z =>
      cases ry
      have nn : D.str z ≠ .non := fun z => nomatch z
      refine iteF ⟨_, _, true, rfl, .str z, nn, kSS, _, rfl, ?_⟩
      refine iteT ⟨_, _, true, rfl, .str z, nn, kSS, _, rfl, ?_⟩
      refine iteT ⟨_, rfl, _, rfl, rfl, ?_⟩
      rw [decide_eq_true rfl]
      exact q H (Same.refl H)
    | tup e hl h => exact False.elim hd
theorem ok_SameS {f : Addr} {fd : FuncData} {k n : Nat} (F : Fun K "_law_same" "_law_same" sSame f fd) (B : Blt mg) (gS : mg "_law_same" = some (.ref f)) (bS : Binds K fd ["answer", "due"] []) (G : FnOk P w K mg base CX0 k f fd ["answer", "due"] (spSame n)) : FnOk P w K mg base CX0 (k + 1) f fd ["answer", "due"] (spSame (n + 1)) := by
  refine F.ok scSame (fun vs H Q E h => ?_) (fun cdv A outer s H vs Q E hr h => ?_)
  · obtain ⟨x, y, d, rfl, _⟩ := h
    rfl
  · obtain ⟨x, y, d, rfl, rx, ry, hd, q⟩ := h
    refine ⟨_, pss_cons (ps_if (pt_cmpR op_isN (pv 1) pe_non (nomark _)) (pss_one (ps_ret (pe_cmpR op_isN (pv 0) pe_non (nomark _)))) pss_nil)
      (pss_cons (ps_if (pt_val (PE.imp (t' := tIs 1 "str") (pe_callB call_isi (by rfl) B.isin (by decide +kernel) (pa_cons (pv 1) (pa_cons (pe_bltn (v := .ty "str") (by rfl) B.str (by decide +kernel) rfl) pa_nil))) (fun σ H Q h => isiI h)))
        (pss_one (ps_ret (pe_and (PE.imp (t' := tIs 0 "str") (pe_callB call_isi (by rfl) B.isin (by decide +kernel) (pa_cons (pv 0) (pa_cons (pe_bltn (v := .ty "str") (by rfl) B.str (by decide +kernel) rfl) pa_nil))) (fun σ H Q h => isiI h)) (pe_one (pe_cmpR op_eq (pv 0) (pv 1) (nomark _)))))) pss_nil)
      (pss_cons (ps_if (pt_val (PE.imp (t' := tIs 1 "int") (pe_callB call_isi (by rfl) B.isin (by decide +kernel) (pa_cons (pv 1) (pa_cons (pe_bltn (v := .ty "int") (by rfl) B.int (by decide +kernel) rfl) pa_nil))) (fun σ H Q h => isiI h)))
        (pss_one (ps_ret (pe_and (PE.imp (t' := tIs 0 "int") (pe_callB call_isi (by rfl) B.isin (by decide +kernel) (pa_cons (pv 0) (pa_cons (pe_bltn (v := .ty "int") (by rfl) B.int (by decide +kernel) rfl) pa_nil))) (fun σ H Q h => isiI h))
          (pe_and (pe_cmpR op_eq (PE.imp (t' := tIs 0 "bool") (pe_callB call_isi (by rfl) B.isin (by decide +kernel) (pa_cons (pv 0) (pa_cons (pe_bltn (v := .ty "bool") (by rfl) B.bool (by decide +kernel) rfl) pa_nil))) (fun σ H Q h => isiI h)) (PE.imp (t' := tIs 1 "bool") (pe_callB call_isi (by rfl) B.isin (by decide +kernel) (pa_cons (pv 1) (pa_cons (pe_bltn (v := .ty "bool") (by rfl) B.bool (by decide +kernel) rfl) pa_nil))) (fun σ H Q h => isiI h)) (nomark _))
            (pe_one (pe_cmpR op_eq (pv 0) (pv 1) (nomark _))))))) pss_nil)
      (pss_cons (ps_if (pt_val (PE.imp (t' := tIs 1 "dict") (pe_callB call_isi (by rfl) B.isin (by decide +kernel) (pa_cons (pv 1) (pa_cons (pe_bltn (v := .ty "dict") (by rfl) B.dict (by decide +kernel) rfl) pa_nil))) (fun σ H Q h => isiI h))) (pss_cons ps_never (pss_one ps_never)) pss_nil)
      (pss_cons (ps_if (PW.pt (pw_or (pt_cmpR op_ne (PE.imp (t' := tIs 1 "tuple") (pe_callB call_isi (by rfl) B.isin (by decide +kernel) (pa_cons (pv 1) (pa_cons (pe_bltn (v := .ty "tuple") (by rfl) B.tuple (by decide +kernel) rfl) pa_nil))) (fun σ H Q h => isiI h)) (PE.imp (t' := tIs 0 "tuple") (pe_callB call_isi (by rfl) B.isin (by decide +kernel) (pa_cons (pv 0) (pa_cons (pe_bltn (v := .ty "tuple") (by rfl) B.tuple (by decide +kernel) rfl) pa_nil))) (fun σ H Q h => isiI h)) (nomark _)) (pw_or1 (pt_cmpR op_ne (PE.imp (t' := tIs 1 "list") (pe_callB call_isi (by rfl) B.isin (by decide +kernel) (pa_cons (pv 1) (pa_cons (pe_bltn (v := .ty "list") (by rfl) B.list (by decide +kernel) rfl) pa_nil))) (fun σ H Q h => isiI h)) (PE.imp (t' := tIs 0 "list") (pe_callB call_isi (by rfl) B.isin (by decide +kernel) (pa_cons (pv 0) (pa_cons (pe_bltn (v := .ty "list") (by rfl) B.list (by decide +kernel) rfl) pa_nil))) (fun σ H Q h => isiI h)) (nomark _))))) (pss_one (ps_ret pe_bl)) pss_nil)
      (pss_one (ps_ret (pe_and (pe_cmpR op_eq (pe_callB call_len_seq (by rfl) B.len PySem.boot_len (pa_cons (pv 0) pa_nil)) (pe_callB call_len_seq (by rfl) B.len PySem.boot_len (pa_cons (pv 1) pa_nil)) (nomark _))
        (pe_one (pe_callB (cr_all rfl) (by rfl) B.all (by decide +kernel) (pa_cons (pe_lc (own := [("k", 3)]) (g := gName 3) (tt := tYes) rfl scSame.nd (pi_range1 rfl B.range (pa_cons (pe_callB call_len_seq (by rfl) B.len PySem.boot_len (pa_cons (pv 1) pa_nil)) pa_nil))
          (blkOk_by (own := [("k", 3)]) (N := ["answer", "due", "key", "k"]) (sc := defScope sSame) (by decide +kernel)) (fun _ _ _ _ _ => pg_name (i := 3) scSame.nd rfl (.inl rfl)) (fun _ _ _ _ _ => pts_nil)
          (fun _ _ _ _ _ => pe_call G hr (by rfl) gS F.kp bS .nil pass0 (pa_cons (pe_ix (ixTK (K := K) rfl) (pv 0) (pv 3) (fun _ _ => rfl)) (pa_cons (pe_ix (ixTK (K := K) rfl) (pv 1) (pv 3) (fun _ _ => rfl)) pa_nil)))) pa_nil)))))))))), ?_⟩
    refine ⟨y, rfl, rfl, _, rfl, ?_⟩
    cases rx with
    | non =>
      cases ry
      exact iteT ⟨_, rfl, rfl, q H (Same.refl H)⟩
    | int i =>
      cases ry
      have nn : D.int i ≠ .non := fun z => nomatch z
      refine iteF ⟨_, _, false, rfl, .int i, nn, kIS, _, rfl, ?_⟩
      refine iteF ⟨_, _, true, rfl, .int i, nn, kII, _, rfl, ?_⟩
      refine iteT ⟨_, _, true, rfl, .int i, nn, kII, _, rfl, ?_⟩
      refine iteT ⟨_, _, false, rfl, .int i, nn, kIB, _, _, false, rfl, .int i, nn, kIB, rfl, _, rfl, ?_⟩
      refine iteT ⟨_, rfl, _, rfl, rfl, ?_⟩
      rw [decide_eq_true rfl]
      exact q H (Same.refl H)
    | str z =>
      cases ry
      have nn : D.str z ≠ .non := fun z => nomatch z
      refine iteF ⟨_, _, true, rfl, .str z, nn, kSS, _, rfl, ?_⟩
      refine iteT ⟨_, _, true, rfl, .str z, nn, kSS, _, rfl, ?_⟩
      refine iteT ⟨_, rfl, _, rfl, rfl, ?_⟩
      rw [decide_eq_true rfl]
      exact q H (Same.refl H)
    | @tup a l xs e hl h =>
      cases ry with
      | @tup a2 _ ys e2 hl2 h2 =>
        have nn : D.tup l ≠ .non := fun z => nomatch z
        have r1 : RepD H (.tup l) (.ref a) := .tup e hl h
        have r2 : RepD H (.tup l) (.ref a2) := .tup e2 hl2 h2
        refine iteF ⟨_, _, false, rfl, r2, nn, kTS, _, rfl, ?_⟩
        refine iteF ⟨_, _, false, rfl, r2, nn, kTI, _, rfl, ?_⟩
        refine iteF ⟨_, _, false, rfl, r2, nn, kTD, _, rfl, ?_⟩
        refine iteF ⟨_, _, true, rfl, r2, nn, kTT, _, _, true, rfl, r1, nn, kTT, rfl, _, rfl, ?_⟩
        refine iteF ⟨_, _, false, rfl, r2, nn, kTL, _, _, false, rfl, r1, nn, kTL, rfl, _, rfl, ?_⟩
        refine iteF ⟨_, rfl, a, xs, rfl, .inr (SqT.of e), _, rfl, a2, ys, rfl, .inr (SqT.of e2), rfl, _, rfl, ?_⟩
        rw [← hl, ← hl2, decide_eq_true rfl]
        obtain ⟨hd1, hd2⟩ := hd
        refine iteT ⟨_, rfl, a2, ys, rfl, .inr (SqT.of e2), _, rfl, by omega, by omega, fun D nD => ?_⟩
        have sD := same_upd (o := .lst []) nD
        have ez : ((ys.length : Int)).toNat = l.length := by rw [← hl2, Int.toNat_natCast]
        rw [ez]
        refine w_rng (lo := 0) (n := l.length) (fun i H2 => Same H H2 ∧ H2 D = some (.lst ((List.replicate i true).map V.bl))) ⟨sD, upd_same⟩ (fun i H2 hi hp => ?_) (fun H2 hp => ?_)
        · obtain ⟨s2, eD⟩ := hp
          have i1 : i < xs.length := by omega
          have i2 : i < ys.length := by omega
          rw [Int.zero_add]
          have g1 : xs[i]? = some xs[i] := List.getElem?_eq_getElem i1
          have g2 : ys[i]? = some ys[i] := List.getElem?_eq_getElem i2
          have g3 : l[i]? = some l[i] := List.getElem?_eq_getElem hi
          refine ⟨rfl, _, rfl, .int i, rfl, a, xs, _, xs[i], rfl, rfl, SqT.of (s2 _ _ e), atI_nat g1, _, rfl, .int i, rfl, a2, ys, _, ys[i], rfl, rfl, SqT.of (s2 _ _ e2), atI_nat g2, xs[i], ys[i], l[i], rfl, (h i _ _ g3 g1).same s2, (h2 i _ _ g3 g2).same s2, hd2 i _ g3, fun H3 s3 => ?_⟩
          refine ⟨_, s3 _ _ eD, line_lt (by rw [List.length_map, List.length_replicate]; omega), ?_, ?_⟩
          · intro b o e
            rw [upd_ne (ne_of_none e nD)]
            exact s3 _ _ (s2 _ _ e)
          · rw [upd_same, List.replicate_succ', List.map_append]
            rfl
        · obtain ⟨s2, eD⟩ := hp
          refine ⟨D, _, rfl, SqL.of eD, ?_⟩
          have ea : ((List.replicate l.length true).all id) = true := by
            rw [List.all_eq_true]
            intro x hx
            rw [List.eq_of_mem_replicate hx]
            rfl
          rw [ea]
          exact q H2 s2
end
end K17
namespace K17
open PySem PySem.Spec PyProof.Rows L2 KX M17
abbrev sLT : Stmt := topS 21
abbrev sLB : Stmt := topS 22
abbrev sLD : Stmt := topS 23
abbrev sLO : Stmt := topS 24
theorem scLT : FnScope ["judges", "top", "out", "k", "at"] ["judges", "top"] (defScope sLT) := ⟨rfl, rfl, rfl, by decide +kernel, rfl, by decide +kernel, by decide +kernel⟩
theorem scLB : FnScope ["one", "other", "k"] ["one", "other"] (defScope sLB) := ⟨rfl, rfl, rfl, by decide +kernel, rfl, by decide +kernel, by decide +kernel⟩
theorem scLD : FnScope ["table", "judges", "top", "rows", "t", "one", "other", "w", "x"] ["table", "judges", "top"] (defScope sLD) := ⟨rfl, rfl, rfl, by decide +kernel, rfl, by decide +kernel, by decide +kernel⟩
theorem scLO : FnScope ["table", "judges", "top", "found", "one"] ["table", "judges", "top"] (defScope sLO) := ⟨rfl, rfl, rfl, by decide +kernel, rfl, by decide +kernel, by decide +kernel⟩
section
variable {P : Program} {w : World} {K : PySem.W.Frag} {mg : Str → Option Value} {base : Heap}
/-! ### an error told -/
def spFault (C : Addr) : Addr × Obj → Sp := fun p vs H Q _ => ∃ (d : Addr) (z : String), vs = [.ref p.1] ∧ Zc (.ref C) (some d) p.2 ∧ (∃ us, p.2.data = .fields us) ∧ H d = some (.xd [("what", .str (Str.ofString z))]) ∧ ∀ H' v, Same H H' → RepD H' (.tup [.str "TooMany", .str z]) v → Q v H'
theorem ok_Fault {f C fI : Addr} {fd fdI : FuncData} {k : Nat} (F : Fun K "_law_fault" "_law_fault" sFault f fd) (B : Blt mg) (T : ErrT K mg C fI fdI) (XT : XfC K C) : FnE P w K mg base (k + 1) f fd ["error"] (spFault C) := by
  refine fn_ofE F scFt (fun p vs H Q E h => ?_) (fun cdv A outer s H vs Q E p hr h => ?_)
  · obtain ⟨d, z, rfl, _⟩ := h
    rfl
  · obtain ⟨d, z, rfl, hz, hf, hd, q⟩ := h
    obtain ⟨a, oe⟩ := p
    refine ⟨_, pss_cons (ps_if (pt_val (pe_callB (call_isP (a := a) (oe := oe) (C := C) (List.mem_cons_self ..) hz.1) (by rfl) B.isin (by decide +kernel) (pa_cons (pv 0) (pa_cons (pe_glob (v := .ref C) rfl T.gC rfl) pa_nil))))
      (pss_one (ps_ret (pe_tup (pa_cons pe_str (pa_cons (pe_xP (a := a) (oe := oe) (C := C) (d := some d) XT T.nf (List.mem_cons_self ..) hz hf (pv 0)) pa_nil))))) pss_nil) (pss_one ps_never), ?_⟩
    refine ⟨.ref a, rfl, rfl, true, rfl, ?_⟩
    refine iteT ⟨.ref a, rfl, rfl, d, _, _, rfl, hd, rfl, line2, fun p np => q _ _ (same_upd np) ?_⟩
    exact rep2 upd_same (.str "TooMany") (.str z)
/-! ### the law's tuples -/
def spLT : Sp := fun vs H Q _ => ∃ (j : Nat) (top : Int), vs = [.int j, .int top] ∧ j ≤ 1000 ∧ 0 ≤ top ∧ top ≤ 1000 ∧ (top + 1).toNat ^ j ≤ 1000 ∧ ∀ H' p as, Same H H' → H p = none → H' p = some (.lst (as.map V.ref)) → RowsAt H' as (rowsOf j top) → Q (.ref p) H'
theorem ok_LT {f : Addr} {fd : FuncData} {k : Nat} (F : Fun K "_law_tuples" "_law_tuples" sLT f fd) (B : Blt mg) : FnOk P w K mg base CX0 (k + 1) f fd ["judges", "top"] spLT := by
  refine F.ok scLT (fun vs H Q E h => ?_) (fun cdv A outer s H vs Q E hr h => ?_)
  · obtain ⟨j, top, rfl, _⟩ := h
    rfl
  · obtain ⟨j, top, rfl, hj, h0, h1, hn, q⟩ := h
    refine ⟨_, pss_cons (ps_set (i := 2) scLT.nd rfl (.inr rfl) (pe_lst (pa_cons (pe_tup pa_nil) pa_nil)))
      (pss_cons (ps_for PassesOwn.never rfl (pi_range1 rfl B.range (pa_cons (pv 0) pa_nil)) (pg_name (i := 3) scLT.nd rfl (.inl rfl))
        (pss_one (ps_set (i := 2) scLT.nd rfl (.inr rfl) (pe_lc (own := [("at", 4)]) (g := gName 4) (tt := tYes) rfl scLT.nd (pi_range1 rfl B.range (pa_cons (pe_op op_mul (pe_callB call_len_seq (by rfl) B.len PySem.boot_len (pa_cons (pv 2) pa_nil)) (pe_op op_add (pv 1) pe_int)) pa_nil))
          (blkOk_by (own := [("at", 4)]) (N := ["judges", "top", "out", "k", "at"]) (sc := defScope sLT) (by decide +kernel)) (fun _ _ _ _ _ => pg_name (i := 4) scLT.nd rfl (.inl rfl)) (fun _ _ _ _ _ => pts_nil)
          (fun _ _ _ _ _ => pe_op (op_catK (K := K) rfl) (pe_ix (ixLK (K := K) rfl) (pv 2) (pe_op op_fdiv (pv 4) (pe_op op_add (pv 1) pe_int)) (fun _ _ => rfl)) (pe_tup (pa_cons (pe_op op_mod (pv 4) (pe_op op_add (pv 1) pe_int)) pa_nil)))))))
      (pss_one (ps_ret (pv 2)))), ?_⟩
    refine ⟨Nat.zero_le _, fun t nt => ⟨line1, fun L nL => ?_⟩⟩
    have sT := same_upd (o := .tup []) nt
    have sL := same_upd (o := .lst [V.ref t]) nL
    have em : top + 1 = ((top + 1).toNat : Int) := by omega
    have mpos : 0 < (top + 1).toNat := by omega
    have msm : (top + 1).toNat ≤ 1001 := by omega
    refine ⟨.int j, rfl, j, rfl, by omega, by omega, f_rng (lo := 0) (fun i σ H3 => ∃ L as y3, σ = [some (.int j), some (.int top), some (.ref L), y3, none] ∧ Same H H3 ∧ H L = none ∧ H3 L = some (.lst (as.map V.ref)) ∧ RowsAt H3 as (rowsOf i top))
      ⟨L, [t], none, rfl, sT.trans sL, sT.free nL, upd_same, ((RowsAt.nil _).snoc (r := []) upd_same).same sL⟩ (fun i σ H3 hi hp => ?_) (fun σ H3 hp => ?_)⟩
    · obtain ⟨L, as, y3, rfl, sm, nL, eL, rw3⟩ := hp
      rw [Int.toNat_natCast] at hi
      have l0 : (rowsOf i top).length ≤ 1000 := by
        rw [rows_len]
        exact Nat.le_trans (Nat.pow_le_pow_right mpos (by omega)) hn
      have l1 : (rowsOf i top).length * (top + 1).toNat ≤ 1000 := by
        rw [rows_len, ← Nat.pow_succ]
        exact Nat.le_trans (Nat.pow_le_pow_right mpos (by omega)) hn
      have wid : ∀ r ∈ rowsOf i top, r.length = i := fun r hr => (mem_rows.mp hr).1
      have nx : rowsOf (i + 1) top = lawStep (top + 1).toNat (rowsOf i top) := by
        rw [rowsOf_succ, law_step mpos, ← em]
      generalize hrows : rowsOf i top = rows at rw3 l0 l1 wid nx
      generalize hm : (top + 1).toNat = m at em mpos msm l1 nx
      refine ⟨.ref L, rfl, L, _, rfl, .inl (SqL.of eL), .int top, rfl, _, _, rfl, rfl, _, _, rfl, rfl, .inl ⟨by rw [List.length_map, rw3.1]; omega, by rw [List.length_map, rw3.1]; omega⟩, _, rfl, ?_, ?_, fun D nD => ?_⟩
      · rw [List.length_map, rw3.1, em, ← Int.natCast_mul]
        omega
      · rw [List.length_map, rw3.1, em, ← Int.natCast_mul]
        omega
      · have sD := same_upd (o := .lst []) nD
        have ek : (((as.map V.ref).length : Int) * (top + 1)).toNat = rows.length * m := by
          rw [List.length_map, rw3.1, em, ← Int.natCast_mul, Int.toNat_natCast]
        rw [ek]
        refine w_rng (lo := 0) (n := rows.length * m) (fun n H4 => ∃ bs, Same H3 H4 ∧ H4 D = some (.lst (bs.map V.ref)) ∧ RowsAt H4 bs ((lawStep m rows).take n)) ⟨[], sD, upd_same, RowsAt.nil _⟩ (fun n H4 hnn hp => ?_) (fun H4 hp => ?_)
        · obtain ⟨bs, s4, eD4, rw4⟩ := hp
          rw [Int.zero_add]
          have hlen : bs.length ≤ 5000 := by
            rw [rw4.1, List.length_take, law_len]
            omega
          have hdv : n / m < rows.length := Nat.div_lt_of_lt_mul (by rw [Nat.mul_comm]; exact hnn)
          have hr : rows[n / m]? = some rows[n / m] := List.getElem?_eq_getElem hdv
          have hda : n / m < as.length := by rw [rw3.1]; exact hdv
          have ha : as[n / m]? = some as[n / m] := List.getElem?_eq_getElem hda
          have er := s4 _ _ (rw3.2 _ _ _ ha hr)
          have hw := wid _ (List.getElem_mem hdv)
          have tk := law_take hnn
          rw [List.getD_eq_getElem?_getD, hr] at tk
          generalize rows[n / m] = r at hr er hw tk
          have tk2 : (lawStep m rows).take (n + 1) = (lawStep m rows).take n ++ [r ++ [((n % m : Nat) : Int)]] := tk
          have eq1 : (n : Int) / (top + 1) = ((n / m : Nat) : Int) := by rw [em]; rfl
          have eq2 : (n : Int) % (top + 1) = ((n % m : Nat) : Int) := by rw [em]; rfl
          refine ⟨rfl, .ref L, rfl, .int n, rfl, .int top, rfl, _, _, rfl, rfl, _, _, rfl, rfl, ⟨by omega, by omega⟩, L, _, _, .ref as[n / m], rfl, rfl, SqL.of (s4 _ _ eL), ?_, .int n, rfl, .int top, rfl, _, _, rfl, rfl, _, _, rfl, rfl, by show (0 : Int) < top + 1; omega, line1, fun t nt => ?_⟩
          · rw [eq1]
            exact atI_nat (by rw [List.getElem?_map, ha]; rfl)
          · have sT := same_upd (o := .tup [.int ((n : Int) % (top + 1))]) nt
            refine cat_any (sT _ _ er) upd_same ?_ fun H6 p s6 ep => ?_
            · rw [List.length_map, hw]
              show i + 1 ≤ 5000
              omega
            · have s46 := sT.trans s6
              refine ⟨bs.map V.ref, s46 _ _ eD4, line_lt (by rw [List.length_map]; exact hlen), bs ++ [p], ?_, ?_, ?_⟩
              · intro b o e
                rw [upd_ne (ne_of_none e nD)]
                exact s46 _ _ (s4 _ _ e)
              · rw [upd_same, List.map_append]
                rfl
              · rw [tk2]
                have ne : ∀ {b : Addr} {xs : List V}, H6 b = some (.tup xs) → (upd H6 D (.lst (bs.map V.ref ++ [.ref p]))) b = some (.tup xs) := fun {b xs} e => by
                  rw [upd_ne (ne_of e (s46 _ _ eD4) (fun z => nomatch z))]
                  exact e
                refine RowsAt.snoc ⟨rw4.1, fun i b t h1 h2 => ne (s46 _ _ (rw4.2 i b t h1 h2))⟩ (ne ?_)
                rw [← eq2, List.map_append]
                exact ep
        · obtain ⟨bs, s4, eD4, rw4⟩ := hp
          rw [List.take_of_length_le (by rw [law_len]; exact Nat.le_refl _)] at rw4
          refine ⟨D, bs, _, rfl, sm.trans s4, sm.free nD, eD4, ?_⟩
          rw [nx]
          exact rw4
    · obtain ⟨L, as, y3, rfl, sm, nL, eL, rw3⟩ := hp
      rw [Int.toNat_natCast] at rw3
      exact ⟨.ref L, rfl, q H3 L as sm nL eL rw3⟩
/-! ### below -/
def spLB : Sp := fun vs H Q _ => ∃ (a b : Addr) (r t : List Int), vs = [.ref a, .ref b] ∧ H a = some (.tup (r.map V.int)) ∧ H b = some (.tup (t.map V.int)) ∧ r.length = t.length ∧ r.length ≤ 1000 ∧ ∀ H', Same H H' → Q (.bl (leB r t)) H'
theorem ok_LB {f : Addr} {fd : FuncData} {k : Nat} (F : Fun K "_law_below" "_law_below" sLB f fd) (B : Blt mg) : FnOk P w K mg base CX0 (k + 1) f fd ["one", "other"] spLB := by
  refine F.ok scLB (fun vs H Q E h => ?_) (fun cdv A outer s H vs Q E hr h => ?_)
  · obtain ⟨a, b, r, t, rfl, _⟩ := h
    rfl
  · obtain ⟨a, b, r, t, rfl, ha, hb, hl, h1, q⟩ := h
    refine ⟨_, pss_one (ps_ret (pe_callB (cr_all rfl) (by rfl) B.all (by decide +kernel) (pa_cons (pe_lc (own := [("k", 2)]) (g := gName 2) (tt := tYes) rfl scLB.nd (pi_range1 rfl B.range (pa_cons (pe_callB call_len_seq (by rfl) B.len PySem.boot_len (pa_cons (pv 0) pa_nil)) pa_nil))
          (blkOk_by (own := [("k", 2)]) (N := ["one", "other", "k"]) (sc := defScope sLB) (by decide +kernel)) (fun _ _ _ _ _ => pg_name (i := 2) scLB.nd rfl (.inl rfl)) (fun _ _ _ _ _ => pts_nil)
          (fun _ _ _ _ _ => pe_cmpR op_le (pe_ix (ixTK (K := K) rfl) (pv 0) (pv 2) (fun _ _ => rfl)) (pe_ix (ixTK (K := K) rfl) (pv 1) (pv 2) (fun _ _ => rfl)) (nomark _))) pa_nil))), ?_⟩
    refine ⟨.ref a, rfl, a, _, rfl, .inr (SqT.of ha), _, rfl, by rw [List.length_map]; omega, by rw [List.length_map]; omega, fun D nD => ?_⟩
    have sD := same_upd (o := .lst []) nD
    have ek : (((r.map V.int).length : Nat) : Int).toNat = r.length := by rw [List.length_map, Int.toNat_natCast]
    rw [ek]
    refine w_rng (lo := 0) (n := r.length) (fun i H2 => Same H H2 ∧ H2 D = some (.lst (((List.range i).map fun k => decide (r.getD k 0 ≤ t.getD k 0)).map V.bl))) ⟨sD, upd_same⟩ (fun i H2 hi hp => ?_) (fun H2 hp => ?_)
    · obtain ⟨s2, eD⟩ := hp
      rw [Int.zero_add]
      refine ⟨rfl, .ref a, rfl, .int i, rfl, a, _, _, _, rfl, rfl, SqT.of (s2 _ _ ha), atI_nat (get_int hi), .ref b, rfl, .int i, rfl, b, _, _, _, rfl, rfl, SqT.of (s2 _ _ hb), atI_nat (get_int (by omega)), _, _, rfl, rfl, _, eD, line_lt (by rw [List.length_map, List.length_map, List.length_range]; omega), ?_, ?_⟩
      · intro b o e
        rw [upd_ne (ne_of_none e nD)]
        exact s2 _ _ e
      · rw [upd_same, List.range_succ, List.map_append, List.map_append]
        rfl
    · obtain ⟨s2, eD⟩ := hp
      refine ⟨D, _, rfl, SqL.of eD, ?_⟩
      rw [le_range r t hl]
      exact q H2 s2
end
end K17
namespace K17
open PySem PySem.Spec PyProof.Rows L2 KX M17
section
variable {P : Program} {w : World} {K : PySem.W.Frag} {mg : Str → Option Value} {base : Heap}
/-! ### what is due -/
def dueF (g : List Int → Int) (s t : List Int) : Option (List Int × List Int) := if g t < g s ∧ leB s t = true then some (s, t) else none
def spAns (ans : (List Int → Int) → Nat → Int → D) : Sp := fun vs H Q _ => ∃ (d : Addr) (j : Nat) (top : Int) (g : List Int → Int), vs = [.ref d, .int j, .int top] ∧ H d = some (.dT (tabK (rowsOf j top) g)) ∧ 1 ≤ j ∧ j ≤ 1000 ∧ 0 ≤ top ∧ top ≤ 1000 ∧ (top + 1).toNat ^ j ≤ 1000 ∧
  ∀ H' v, Same H H' → RepD H' (ans g j top) v → Q v H'
theorem ok_LD {f fT fB : Addr} {fd fdT fdB : FuncData} (F : Fun K "_law_due" "_law_due" sLD f fd) (FT : Fun K "_law_tuples" "_law_tuples" sLT fT fdT) (FB : Fun K "_law_below" "_law_below" sLB fB fdB) (bT : Binds K fdT ["judges", "top"] []) (bB : Binds K fdB ["one", "other"] [])
    (gT : mg "_law_tuples" = some (.ref fT)) (gB : mg "_law_below" = some (.ref fB)) (B : Blt mg) : FnOk P w K mg base CX0 2 f fd ["table", "judges", "top"] (spAns lawD) := by
  have GT : FnOk P w K mg base CX0 1 fT fdT ["judges", "top"] spLT := ok_LT FT B
  have GB : FnOk P w K mg base CX0 1 fB fdB ["one", "other"] spLB := ok_LB FB B
  refine F.ok scLD (fun vs H Q E h => ?_) (fun cdv A outer s H vs Q E hr h => ?_)
  · obtain ⟨d, j, top, g, rfl, _⟩ := h
    rfl
  · obtain ⟨d, j, top, g, rfl, hd, hj1, hj, h0, h1, hn, q⟩ := h
    have hu := hu_of hr
    refine ⟨_, pss_cons (ps_set (i := 3) scLD.nd rfl (.inl rfl) (pe_call GT hr (by rfl) gT FT.kp bT .nil pass0 (pa_cons (pv 1) (pa_cons (pv 2) pa_nil))))
      (pss_cons (ps_for PassesOwn.never rfl (pi_range1 rfl B.range (pa_cons (pe_op op_add (pv 2) pe_int) pa_nil)) (pg_name (i := 4) scLD.nd rfl (.inl rfl))
        (pss_one (ps_if (pt_cmpR op_ne (pe_dget hu (pv 0) (pe_op op_repA (pe_tup (pa_cons (pv 4) pa_nil)) (pv 1)) (fun _ _ => rfl)) (pv 4) (nomark _)) (pss_one (ps_ret (pe_tup (pa_cons pe_str (pa_cons (pv 4) pa_nil))))) pss_nil)))
      (pss_cons (ps_for PassesOwn.never rfl (pi_list (pv 3)) (pg_name (i := 5) scLD.nd rfl (.inl rfl))
        (pss_one (ps_for PassesOwn.never rfl (pi_list (pv 3)) (pg_name (i := 6) scLD.nd rfl (.inl rfl))
          (pss_one (ps_if (PW.pt (pw_and (pt_cmpR op_lt (pe_dget hu (pv 0) (pv 6) (fun _ _ => rfl)) (pe_dget hu (pv 0) (pv 5) (fun _ _ => rfl)) (nomark _)) (pw_and1 (pt_val (pe_call GB hr (by rfl) gB FB.kp bB .nil pass0 (pa_cons (pv 5) (pa_cons (pv 6) pa_nil)))))))
            (pss_one (ps_ret (pe_tup (pa_cons pe_str (pa_cons (pv 5) (pa_cons (pv 6) pa_nil)))))) pss_nil)))))
      (pss_cons (ps_for PassesOwn.never rfl (pi_list (pv 3)) (pg_name (i := 5) scLD.nd rfl (.inl rfl))
        (pss_one (ps_for PassesOwn.never rfl (pi_range2 rfl B.range (pa_cons pe_int (pa_cons (pe_op op_add (pe_op op_sub (pv 2) (pe_callB (cr_maxT rfl) (by rfl) B.max (by decide +kernel) (pa_cons (pv 5) pa_nil))) pe_int) pa_nil))) (pg_name (i := 7) scLD.nd rfl (.inr rfl))
          (pss_one (ps_if (pt_cmpR op_gt (pe_op op_sub (pe_dget hu (pv 0) (pe_callTy call_tuple_of (by rfl) B.tuple (by decide +kernel) (pa_cons (pe_lc (own := [("x", 8)]) (g := gName 8) (tt := tYes) rfl scLD.nd (pi_tup (pv 5))
                (blkOk_by (own := [("x", 8)]) (N := ["table", "judges", "top", "rows", "t", "one", "other", "w", "x"]) (sc := defScope sLD) (by decide +kernel)) (fun _ _ _ _ _ => pg_name (i := 8) scLD.nd rfl (.inl rfl)) (fun _ _ _ _ _ => pts_nil) (fun _ _ _ _ _ => pe_op op_add (pv 8) (pv 7))) pa_nil)) (fun _ _ => rfl))
              (pe_dget hu (pv 0) (pv 5) (fun _ _ => rfl))) (pv 7) (nomark _))
            (pss_one (ps_ret (pe_tup (pa_cons pe_str (pa_cons (pv 5) (pa_cons (pv 7) pa_nil)))))) pss_nil)))))
      (pss_one (ps_ret pe_non))))), ?_⟩
    refine ⟨.int j, rfl, .int top, rfl, j, top, rfl, hj, h0, h1, hn, fun H1 L as s1 nL eL rw1 => ?_⟩
    have hd1 := s1 _ _ hd
    have lenr : (as.map V.ref).length = (rowsOf j top).length := by rw [List.length_map, rw1.1]
    -- unanimous
    refine ⟨.int top, rfl, top, 1, rfl, rfl, top + 1, rfl, by omega, by omega, f_rng (lo := 0) (fun i σ H3 => ∃ y4, σ = [some (.ref d), some (.int j), some (.int top), some (.ref L), y4, none, none, none, none] ∧ Same H1 H3 ∧ ((rng 0 (top + 1)).take i).find? (fun t => decide (g (List.replicate j t) ≠ t)) = none)
      ⟨none, rfl, Same.refl _, rfl⟩ (fun i σ H3 hi hp => ?_) (fun σ H3 hp => ?_)⟩
    · obtain ⟨y4, rfl, s3, no⟩ := hp
      have hw : (rng 0 (top + 1))[i]? = some (0 + (i : Int)) := rng_get (by omega)
      have t0 : 0 ≤ 0 + (i : Int) := by omega
      have t1 : 0 + (i : Int) ≤ top := by omega
      generalize 0 + (i : Int) = t at hw t0 t1
      refine ⟨.ref d, rfl, .int t, rfl, line1, fun p np => ⟨.int j, rfl, rep_any upd_same hj1 hj fun H4 z s4 ez => ?_⟩⟩
      have s34 := (same_upd (o := .tup [.int t]) np).trans s4
      have hd4 : Rd H4 d (.dT (tabK (rowsOf j top) g)) := .inl (s34 _ _ (s3 _ _ hd1))
      refine ⟨d, _, rfl, dget hd4 ez (mem_rows.mpr (rep_box t0 t1)), .int t, rfl, rfl, _, rfl, ?_⟩
      by_cases e : g (List.replicate j t) = t
      · rw [decide_eq_true (show V.int (g (List.replicate j t)) = V.int t by rw [e])]
        refine iteF ⟨_, rfl, s3.trans s34, find_snoc hw no ?_⟩
        exact decide_eq_false fun z => z e
      · rw [decide_eq_false (show ¬ V.int (g (List.replicate j t)) = V.int t from fun z => e (V.int.inj z))]
        refine iteT ⟨.int t, rfl, line2, fun p np => q _ _ (((s1.trans s3).trans s34).trans (same_upd np)) ?_⟩
        have hit : unan g j top = some t := find_hit hw no (decide_eq_true e)
        unfold lawD
        rw [hit]
        exact rep2 upd_same (.str "unanimous") (.int t)
    obtain ⟨y4, rfl, s3, no⟩ := hp
    rw [List.take_of_length_le (l := rng 0 (top + 1)) (by rw [rng_len]; omega)] at no
    have un : unan g j top = none := no
    -- falls
    refine ⟨.ref L, rfl, L, rfl, ⟨_, SqL.of (s3 _ _ eL)⟩, f_list (xs := as.map V.ref) (fun i σ H4 => ∃ y5 y6, σ = [some (.ref d), some (.int j), some (.int top), some (.ref L), y4, y5, y6, none, none] ∧ Same H3 H4 ∧ ((rowsOf j top).take i).findSome? (fun s => (rowsOf j top).findSome? (dueF g s)) = none)
      ⟨none, none, rfl, Same.refl _, rfl⟩ (fun i σ H4 _ hp => ?_) (fun i x σ H4 hx hp => ?_) (fun σ H4 hp => ?_)⟩
    · obtain ⟨_, _, _, s4, _⟩ := hp
      exact SqL.of (s4 _ _ (s3 _ _ eL))
    · obtain ⟨y5, y6, rfl, s4, no4⟩ := hp
      obtain ⟨c, hc, rfl⟩ := refs_at hx
      have hi : i < (rowsOf j top).length := by
        rw [← rw1.1]
        exact (List.getElem?_eq_some_iff.mp hc).1
      have hr2 : (rowsOf j top)[i]? = some (rowsOf j top)[i] := List.getElem?_eq_getElem hi
      have ec := s3.trans s4 _ _ (rw1.2 i c _ hc hr2)
      have hin := List.getElem_mem hi
      generalize (rowsOf j top)[i] = r at hr2 ec hin
      have rbox := mem_rows.mp hin
      refine ⟨.ref L, rfl, L, rfl, ⟨_, SqL.of (s4 _ _ (s3 _ _ eL))⟩, f_list (xs := as.map V.ref) (fun m σ H5 => ∃ y6, σ = [some (.ref d), some (.int j), some (.int top), some (.ref L), y4, some (.ref c), y6, none, none] ∧ Same H4 H5 ∧ ((rowsOf j top).take m).findSome? (dueF g r) = none)
        ⟨y6, rfl, Same.refl _, rfl⟩ (fun m σ H5 _ hp => ?_) (fun m x σ H5 hx hp => ?_) (fun σ H5 hp => ?_)⟩
      · obtain ⟨_, _, s5, _⟩ := hp
        exact SqL.of (s5 _ _ (s4 _ _ (s3 _ _ eL)))
      · obtain ⟨y6, rfl, s5, no5⟩ := hp
        obtain ⟨b, hb, rfl⟩ := refs_at hx
        have hm : m < (rowsOf j top).length := by
          rw [← rw1.1]
          exact (List.getElem?_eq_some_iff.mp hb).1
        have ht : (rowsOf j top)[m]? = some (rowsOf j top)[m] := List.getElem?_eq_getElem hm
        have s15 := (s3.trans s4).trans s5
        have eb := s15 _ _ (rw1.2 m b _ hb ht)
        have tin := List.getElem_mem hm
        generalize (rowsOf j top)[m] = t at ht eb tin
        have tbox := mem_rows.mp tin
        have ec5 := s5 _ _ ec
        have hd5 : Rd H5 d (.dT (tabK (rowsOf j top) g)) := .inl (s15 _ _ hd1)
        refine ⟨.ref d, rfl, .ref b, rfl, d, _, rfl, dget hd5 eb tin, .ref d, rfl, .ref c, rfl, d, _, rfl, dget hd5 ec5 hin, _, _, rfl, rfl, _, rfl, ?_⟩
        by_cases lt : g t < g r
        · rw [decide_eq_true lt]
          refine iteT ⟨.ref c, rfl, .ref b, rfl, c, b, r, t, rfl, ec5, eb, rbox.1.trans tbox.1.symm, by rw [rbox.1]; exact hj, fun H6 s6 => ⟨_, rfl, ?_⟩⟩
          by_cases le : leB r t = true
          · rw [le]
            refine iteT ⟨.ref c, rfl, .ref b, rfl, line3, fun p np => ?_⟩
            have sp := same_upd (o := .tup [.str "falls", .ref c, .ref b]) np
            refine q _ _ (((s1.trans s15).trans s6).trans sp) ?_
            have hit : lawFall g (rowsOf j top) = some (r, t) := by
              refine fs_hit hr2 no4 (fs_hit ht no5 ?_)
              exact if_pos ⟨lt, le⟩
            unfold lawD
            rw [un, hit]
            exact rep3 upd_same (.str "falls") (rep_row (sp _ _ (s6 _ _ ec5))) (rep_row (sp _ _ (s6 _ _ eb)))
          · rw [Bool.eq_false_iff.mpr le]
            refine iteF ⟨_, rfl, s5.trans s6, fs_snoc ht no5 ?_⟩
            unfold dueF
            rw [if_neg fun z => le z.2]
        · rw [decide_eq_false lt]
          refine iteF ⟨_, rfl, s5, fs_snoc ht no5 ?_⟩
          unfold dueF
          rw [if_neg fun z => lt z.1]
      · obtain ⟨y6, rfl, s5, no5⟩ := hp
        rw [List.take_of_length_le (by rw [lenr]; exact Nat.le_refl _)] at no5
        exact ⟨_, _, rfl, s4.trans s5, fs_snoc hr2 no4 no5⟩
    obtain ⟨y5, y6, rfl, s4, no4⟩ := hp
    rw [List.take_of_length_le (by rw [lenr]; exact Nat.le_refl _)] at no4
    have nof : lawFall g (rowsOf j top) = none := no4
    have s14 := s3.trans s4
    -- leaps
    refine ⟨.ref L, rfl, L, rfl, ⟨_, SqL.of (s14 _ _ eL)⟩, f_list (xs := as.map V.ref) (fun i σ H5 => ∃ y5 y7, σ = [some (.ref d), some (.int j), some (.int top), some (.ref L), y4, y5, y6, y7, none] ∧ Same H4 H5 ∧ ((rowsOf j top).take i).findSome? (fun t => (rng 1 (top - maxI t + 1)).findSome? (leapF g t)) = none)
      ⟨y5, none, rfl, Same.refl _, rfl⟩ (fun i σ H5 _ hp => ?_) (fun i x σ H5 hx hp => ?_) (fun σ H5 hp => ?_)⟩
    · obtain ⟨_, _, _, s5, _⟩ := hp
      exact SqL.of (s5 _ _ (s14 _ _ eL))
    · obtain ⟨y5, y7, rfl, s5, no5⟩ := hp
      obtain ⟨c, hc, rfl⟩ := refs_at hx
      have hi : i < (rowsOf j top).length := by
        rw [← rw1.1]
        exact (List.getElem?_eq_some_iff.mp hc).1
      have hr2 : (rowsOf j top)[i]? = some (rowsOf j top)[i] := List.getElem?_eq_getElem hi
      have ec := s14.trans s5 _ _ (rw1.2 i c _ hc hr2)
      have hin := List.getElem_mem hi
      generalize (rowsOf j top)[i] = r at hr2 ec hin
      have rbox := mem_rows.mp hin
      obtain ⟨rl, rb⟩ := id rbox
      refine ⟨.int top, rfl, .ref c, rfl, c, r, rfl, SqT.of ec, by omega, fun mx hm1 hm2 => ?_⟩
      have emx := max_is hm1 hm2
      have mb := rb _ hm1
      subst emx
      refine ⟨_, _, rfl, rfl, _, _, rfl, rfl, 1, top - maxI r + 1, rfl, ⟨by omega, by omega, by omega, by omega⟩, ?_⟩
      refine f_rng (lo := 1) (n := (top - maxI r + 1 - 1).toNat) (fun m σ H6 => ∃ y7, σ = [some (.ref d), some (.int j), some (.int top), some (.ref L), y4, some (.ref c), y6, y7, none] ∧ Same H5 H6 ∧ ((rng 1 (top - maxI r + 1)).take m).findSome? (leapF g r) = none) ⟨y7, rfl, Same.refl _, rfl⟩ (fun m σ H6 hm hp => ?_) (fun σ H6 hp => ?_)
      · obtain ⟨y7, rfl, s6, no6⟩ := hp
        have hw : (rng 1 (top - maxI r + 1))[m]? = some (1 + (m : Int)) := rng_get hm
        have wlo : 0 ≤ 1 + (m : Int) := by omega
        have whi : 1 + (m : Int) ≤ top - maxI r := by omega
        have inb := mem_rows.mpr (addW_box rbox wlo whi)
        generalize 1 + (m : Int) = w at hw inb
        have hc6 := s6 _ _ ec
        refine ⟨.ref d, rfl, .ref c, rfl, c, rfl, ⟨_, SqT.of hc6⟩, fun D nD => ?_⟩
        have sD := same_upd (o := .lst []) nD
        refine w_tup (xs := r.map V.int) (fun i H7 => Same H6 H7 ∧ H7 D = some (.lst ((addW (r.take i) w).map V.int))) ⟨sD, upd_same⟩ (fun i H7 _ hp => SqT.of (hp.1 _ _ hc6)) (fun i x H7 hx hp => ?_) (fun H7 hp => ?_)
        · obtain ⟨s7, eD⟩ := hp
          obtain ⟨x, hx2, rfl⟩ := ints_at hx
          have hil := (List.getElem?_eq_some_iff.mp hx2).1
          refine ⟨rfl, .int x, rfl, .int w, rfl, x, w, rfl, rfl, _, eD, line_lt ?_, ?_, ?_⟩
          · unfold addW
            rw [List.length_map, List.length_map, List.length_take]
            omega
          · intro b o e
            rw [upd_ne (ne_of_none e nD)]
            exact s7 _ _ e
          · rw [upd_same, List.take_add_one, hx2]
            unfold addW
            rw [List.map_append, List.map_append]
            rfl
        · obtain ⟨s7, eD⟩ := hp
          rw [List.length_map, List.take_length] at eD
          refine ⟨D, _, rfl, .inl ⟨SqL.of eD, fun T nT => ?_⟩⟩
          have sT := same_upd (o := .tup ((addW r w).map V.int)) nT
          have s68 := s7.trans sT
          have s18 := ((s14.trans s5).trans s6).trans s68
          have hd8 : Rd (upd H7 T (.tup ((addW r w).map V.int))) d (.dT (tabK (rowsOf j top) g)) := .inl (s18 _ _ hd1)
          refine ⟨d, _, rfl, dget hd8 upd_same inb, .ref d, rfl, .ref c, rfl, d, _, rfl, dget hd8 (s68 _ _ hc6) hin, _, _, rfl, rfl, .int w, rfl, _, _, rfl, rfl, _, rfl, ite2 (fun yes => ?_) (fun nay => ?_)⟩
          · have yes := of_decide_eq_true yes
            have hit : leap g (rowsOf j top) top = some (r, w) := by
              rw [leap_eq]
              refine fs_hit hr2 no5 (fs_hit hw no6 ?_)
              unfold leapF
              rw [if_pos (by omega)]
            refine ⟨.ref c, rfl, .int w, rfl, line3, fun p np => ?_⟩
            have sp := same_upd (o := .tup [.str "leaps", .ref c, .int w]) np
            refine q _ _ ((s1.trans s18).trans sp) ?_
            unfold lawD
            rw [un, nof, hit]
            exact rep3 upd_same (.str "leaps") (rep_row (sp _ _ (s68 _ _ hc6))) (.int w)
          · refine ⟨_, rfl, s6.trans s68, fs_snoc hw no6 ?_⟩
            unfold leapF
            rw [if_neg fun z => nay (decide_eq_true (by omega))]
      · obtain ⟨y7, rfl, s6, no6⟩ := hp
        rw [List.take_of_length_le (l := rng 1 (top - maxI r + 1)) (by rw [rng_len]; exact Nat.le_refl _)] at no6
        exact ⟨_, _, rfl, s5.trans s6, fs_snoc hr2 no5 no6⟩
    obtain ⟨y5, y7, rfl, s5, no5⟩ := hp
    rw [List.take_of_length_le (by rw [lenr]; exact Nat.le_refl _)] at no5
    refine q _ _ ((s1.trans s14).trans s5) ?_
    unfold lawD
    rw [un, nof, leap_eq, no5]
    exact .non
/-! ### what lies outside -/
theorem ok_LO {f fT : Addr} {fd fdT : FuncData} (F : Fun K "_law_outside" "_law_outside" sLO f fd) (FT : Fun K "_law_tuples" "_law_tuples" sLT fT fdT) (bT : Binds K fdT ["judges", "top"] []) (gT : mg "_law_tuples" = some (.ref fT)) (B : Blt mg) : FnOk P w K mg base CX0 2 f fd ["table", "judges", "top"] (spAns namedD) := by
  have GT : FnOk P w K mg base CX0 1 fT fdT ["judges", "top"] spLT := ok_LT FT B
  refine F.ok scLO (fun vs H Q E h => ?_) (fun cdv A outer s H vs Q E hr h => ?_)
  · obtain ⟨d, j, top, g, rfl, _⟩ := h
    rfl
  · obtain ⟨d, j, top, g, rfl, hd, hj1, hj, h0, h1, hn, q⟩ := h
    have hu := hu_of hr
    refine ⟨_, pss_cons (ps_setLc (i := 3) (own := [("one", 4)]) (g := gName 4) rfl scLO.nd rfl rfl (sw_true rfl rfl rfl (by decide +kernel)) (pi_list (pe_call GT hr (by rfl) gT FT.kp bT .nil pass0 (pa_cons (pv 1) (pa_cons (pv 2) pa_nil))))
        (blkOk_by (own := [("one", 4)]) (N := ["table", "judges", "top", "found", "one"]) (sc := defScope sLO) (by decide +kernel)) (fun _ _ _ _ _ => pg_name (i := 4) scLO.nd rfl (.inl rfl))
        (fun _ _ _ _ _ => pts_one (PW.pt (pw_or (pt_cmpR op_lt (pe_dget hu (pv 0) (pv 4) (fun _ _ => rfl)) (pe_callB (minTK (K := K) rfl rfl) (by rfl) B.min (by decide +kernel) (pa_cons (pv 4) pa_nil)) (nomark _))
          (pw_or1 (pt_cmpR op_gt (pe_dget hu (pv 0) (pv 4) (fun _ _ => rfl)) (pe_callB (maxTK (K := K) rfl rfl) (by rfl) B.max (by decide +kernel) (pa_cons (pv 4) pa_nil)) (nomark _)))))) (fun _ _ _ _ _ => pv 4))
      (pss_one (ps_ret (pe_ifExp (pt_truth (pv 3) (by intro _; rfl)) (pe_ix ix_list (pv 3) pe_int (fun _ _ => rfl)) pe_non))), ?_⟩
    refine ⟨.int j, rfl, .int top, rfl, j, top, rfl, hj, h0, h1, hn, fun H1 L as s1 nL eL rw1 => ?_⟩
    have hd1 := s1 _ _ hd
    refine ⟨L, rfl, ⟨_, SqL.of eL⟩, fun D nD => ?_⟩
    have sD := same_upd (o := .lst []) nD
    have lenr : (rowsOf j top).length ≤ 1000 := by
      rw [rows_len]
      exact hn
    refine w_list (xs := as.map V.ref) (fun i H2 => ∃ bs, Same H1 H2 ∧ H2 D = some (.lst (bs.map V.ref)) ∧ RowsAt H2 bs (((rowsOf j top).take i).filter (outB g))) ⟨[], sD, upd_same, RowsAt.nil _⟩ (fun i H2 _ hp => ?_) (fun i x H2 hx hp => ?_) (fun H2 hp => ?_)
    · obtain ⟨_, s2, _⟩ := hp
      exact SqL.of (s2 _ _ eL)
    · obtain ⟨bs, s2, eD, rw2⟩ := hp
      obtain ⟨c, hc, rfl⟩ := refs_at hx
      have hi : i < (rowsOf j top).length := by
        rw [← rw1.1]
        exact (List.getElem?_eq_some_iff.mp hc).1
      have hr2 : (rowsOf j top)[i]? = some (rowsOf j top)[i] := List.getElem?_eq_getElem hi
      have ec := s2 _ _ (rw1.2 i c _ hc hr2)
      have hin := List.getElem_mem hi
      generalize (rowsOf j top)[i] = r at hr2 ec hin
      obtain ⟨rl, rb⟩ := mem_rows.mp hin
      have hd2 : Rd H2 d (.dT (tabK (rowsOf j top) g)) := .inl (s2 _ _ hd1)
      have blen : bs.length ≤ 5000 := by
        rw [rw2.1]
        have z := List.length_filter_le (outB g) ((rowsOf j top).take i)
        rw [List.length_take] at z
        omega
      have kin : outB g r = true → ∃ y, (∃ acc, H2 D = some (.lst acc) ∧ acc.length < sizeLine ∧ (∃ bs, Same H1 (upd H2 D (.lst (acc ++ [.ref c]))) ∧ (upd H2 D (.lst (acc ++ [.ref c]))) D = some (.lst (bs.map V.ref)) ∧ RowsAt (upd H2 D (.lst (acc ++ [.ref c]))) bs (((rowsOf j top).take (i + 1)).filter (outB g)))) ∧ y = V.ref c := fun z => by
        refine ⟨_, ⟨bs.map V.ref, eD, line_lt (by rw [List.length_map]; exact blen), bs ++ [c], ?_, ?_, ?_⟩, rfl⟩
        · intro b o e
          rw [upd_ne (ne_of_none e nD)]
          exact s2 _ _ e
        · rw [upd_same, List.map_append]
          rfl
        · have ef : ((rowsOf j top).take (i + 1)).filter (outB g) = ((rowsOf j top).take i).filter (outB g) ++ [r] := by
            rw [List.take_add_one, hr2, List.filter_append]
            congr 1
            show List.filter (outB g) [r] = [r]
            rw [List.filter_cons, if_pos z]
            rfl
          rw [ef]
          have ne : ∀ {b : Addr} {xs : List V}, H2 b = some (.tup xs) → (upd H2 D (.lst (bs.map V.ref ++ [.ref c]))) b = some (.tup xs) := fun {b xs} e => by
            rw [upd_ne (ne_of e eD (fun z => nomatch z))]
            exact e
          exact RowsAt.snoc ⟨rw2.1, fun i b t h1 h2 => ne (rw2.2 i b t h1 h2)⟩ (ne ec)
      have kout : outB g r = false → ∃ bs, Same H1 H2 ∧ H2 D = some (.lst (bs.map V.ref)) ∧ RowsAt H2 bs (((rowsOf j top).take (i + 1)).filter (outB g)) := fun z => by
        refine ⟨bs, s2, eD, ?_⟩
        have ef : ((rowsOf j top).take (i + 1)).filter (outB g) = ((rowsOf j top).take i).filter (outB g) := by
          rw [List.take_add_one, hr2, List.filter_append]
          show _ ++ List.filter (outB g) [r] = _
          rw [List.filter_cons, if_neg (by rw [z]; decide)]
          exact List.append_nil _
        rw [ef]
        exact rw2
      refine ⟨rfl, .ref d, rfl, .ref c, rfl, d, _, rfl, dget hd2 ec hin, .ref c, rfl, c, r, rfl, SqT.of ec, by omega, fun m hm1 hm2 => ?_⟩
      have em := min_is hm1 hm2
      subst em
      refine ⟨_, _, rfl, rfl, _, rfl, ?_⟩
      by_cases a1 : g r < minI r
      · rw [decide_eq_true a1]
        obtain ⟨y, hy, rfl⟩ := kin (by unfold outB; rw [decide_eq_true a1]; rfl)
        exact ⟨.ref c, rfl, hy⟩
      · rw [decide_eq_false a1]
        refine ⟨.ref d, rfl, .ref c, rfl, d, _, rfl, dget hd2 ec hin, .ref c, rfl, c, r, rfl, SqT.of ec, by omega, fun m hm1 hm2 => ?_⟩
        have em := max_is hm1 hm2
        subst em
        refine ⟨_, _, rfl, rfl, _, rfl, ?_⟩
        by_cases a2 : g r > maxI r
        · rw [decide_eq_true a2]
          obtain ⟨y, hy, rfl⟩ := kin (by unfold outB; rw [decide_eq_true (show maxI r < g r from a2), Bool.or_true])
          exact ⟨.ref c, rfl, hy⟩
        · rw [decide_eq_false a2]
          exact kout (by unfold outB; rw [decide_eq_false a1, decide_eq_false (show ¬ maxI r < g r from a2)]; rfl)
    · obtain ⟨bs, s2, eD, rw2⟩ := hp
      rw [List.length_map, rw1.1, List.take_length] at rw2
      have s12 := s1.trans s2
      have blen : bs.length ≤ 5000 := by
        rw [rw2.1]
        have z := List.length_filter_le (outB g) (rowsOf j top)
        omega
      refine ⟨.ref D, rfl, _, .inl ⟨_, SqL.of eD, rfl⟩, ?_⟩
      have hh := head_filter (outB g) (rowsOf j top)
      cases hf : (rowsOf j top).filter (outB g) with
      | nil =>
        rw [hf] at rw2 hh
        have eb : bs = [] := List.eq_nil_of_length_eq_zero rw2.1
        rw [eb]
        refine iteF (q _ _ s12 ?_)
        unfold namedD
        rw [← hh]
        exact .non
      | cons r rest =>
        rw [hf] at rw2 hh
        cases bs with
        | nil => exact absurd rw2.1 (by simp)
        | cons c bs =>
          refine iteT ⟨.ref D, rfl, D, _, 0, .ref c, rfl, rfl, SqL.of eD, atI_nat (j := 0) rfl, q _ _ s12 ?_⟩
          unfold namedD
          rw [← hh]
          exact rep_row (rw2.2 0 c r rfl rfl)
end
end K17
namespace K17
open PySem PySem.Spec PyProof.Rows L2 KX M17
abbrev sLA : Stmt := topS 25
abbrev sTab : Stmt := topS 26
theorem scLA : FnScope ["kind", "at", "row", "top", "told"] ["kind", "at", "row", "top"] (defScope sLA) := ⟨rfl, rfl, rfl, by decide +kernel, rfl, by decide +kernel, by decide +kernel⟩
theorem scTab : FnScope ["s", "judges", "top", "kind", "at", "out", "row", "t", "k"] ["s", "judges", "top"] (defScope sTab) := ⟨rfl, rfl, rfl, by decide +kernel, rfl, by decide +kernel, by decide +kernel⟩
/-! ### an answer -/
/-- the slots of _law_answer behind told = sorted(row) -/
def AnsS (σ : L2.St) (H : Hp) : Prop := ∃ (kind at_ top : Int) (b L : Addr) (r ys : List Int), σ = [some (.int kind), some (.int at_), some (.ref b), some (.int top), some (.ref L)] ∧ 0 ≤ at_ ∧ 0 ≤ top ∧ H b = some (.tup (r.map V.int)) ∧ H L = some (.lst (ys.map V.int)) ∧ 0 < r.length ∧ r.length < 64 ∧ ys.length = r.length
def tA : TE := fun σ H Q => AnsS σ H ∧ ∀ x : Int, Q (.int x) H
theorem last_int {r : List Int} (h : 0 < r.length) : ∃ x, atI (r.map V.int) (-1) = some (.int x) := by
  have ne : r ≠ [] := fun z => by rw [z] at h; exact absurd h (by decide)
  refine ⟨r.getLast ne, ?_⟩
  have e : r.map V.int = r.dropLast.map V.int ++ [.int (r.getLast ne)] := by
    rw [← List.map_singleton (f := V.int), ← List.map_append, List.dropLast_concat_getLast]
  rw [e]
  exact atI_last _ _
theorem mod_at {ns : List Int} {i : Int} (n : Nat) (hn : n = ns.length) (h : 0 < n) : ∃ x, atI (ns.map V.int) (i % (n : Int)) = some (.int x) := by
  have h1 := Int.emod_nonneg i (show (n : Int) ≠ 0 by omega)
  have h2 := Int.emod_lt_of_pos i (show (0 : Int) < n by omega)
  have e : (((i % (n : Int)).toNat : Nat) : Int) = i % (n : Int) := by omega
  have z := atI_nat (get_int (r := ns) (i := (i % (n : Int)).toNat) (by omega))
  rw [e] at z
  exact ⟨_, z⟩
section
variable {P : Program} {w : World} {K : PySem.W.Frag} {mg : Str → Option Value} {base : Heap}
def spLA : Sp := fun vs H Q _ => ∃ (kind at_ top : Int) (b : Addr) (r : List Int), vs = [.int kind, .int at_, .ref b, .int top] ∧ 0 ≤ at_ ∧ 0 ≤ top ∧ H b = some (.tup (r.map V.int)) ∧ 0 < r.length ∧ r.length < 64 ∧ ∀ (x : Int) H', Same H H' → Q (.int x) H'
theorem ok_LA {f : Addr} {fd : FuncData} {k : Nat} (F : Fun K "_law_answer" "_law_answer" sLA f fd) (B : Blt mg) : FnOk P w K mg base CX0 (k + 1) f fd ["kind", "at", "row", "top"] spLA := by
  refine F.ok scLA (fun vs H Q E h => ?_) (fun cdv A outer s H vs Q E hr h => ?_)
  · obtain ⟨kind, at_, top, b, r, rfl, _⟩ := h
    rfl
  · obtain ⟨kind, at_, top, b, r, rfl, ha, ht, hb, h0, h64, q⟩ := h
    refine ⟨_, pss_cons (ps_set (i := 4) scLA.nd rfl (.inl rfl) (pe_callB cr_sortT (by rfl) B.sorted (by decide +kernel) (pa_cons (pv 2) pa_nil)))
      (pss_cons (ps_if (pt_cmpR op_eq (pv 0) pe_int (nomark _)) (pss_one (ps_ret (PE.imp (t' := tA) (pe_ix ix_list (pv 4) pe_int (fun _ _ => rfl)) fun σ H Q ⟨⟨kind, at_, top, b, L, r, ys, e, h1, h2, hb, hL, h0, h6, hl⟩, q⟩ => by
          subst e
          exact ⟨_, rfl, L, _, 0, _, rfl, rfl, SqL.of hL, atI_nat (j := 0) (get_int (by omega)), q _⟩))) pss_nil)
      (pss_cons (ps_if (pt_cmpR op_eq (pv 0) pe_int (nomark _)) (pss_one (ps_ret (PE.imp (t' := tA) (pe_ix ix_list (pv 4) (pe_un un_neg pe_int) (fun _ _ => rfl)) fun σ H Q ⟨⟨kind, at_, top, b, L, r, ys, e, h1, h2, hb, hL, h0, h6, hl⟩, q⟩ => by
          subst e
          obtain ⟨x, hx⟩ := last_int (r := ys) (by omega)
          exact ⟨_, rfl, 1, rfl, L, _, -1, _, rfl, rfl, SqL.of hL, hx, q _⟩))) pss_nil)
      (pss_cons (ps_if (pt_cmpR op_eq (pv 0) pe_int (nomark _)) (pss_one (ps_ret (PE.imp (t' := tA) (pe_ix ix_list (pv 4) (pe_op op_mod (pv 1) (pe_callB call_len_seq (by rfl) B.len PySem.boot_len (pa_cons (pv 2) pa_nil))) (fun _ _ => rfl)) fun σ H Q ⟨⟨kind, at_, top, b, L, r, ys, e, h1, h2, hb, hL, h0, h6, hl⟩, q⟩ => by
          subst e
          obtain ⟨x, hx⟩ := mod_at (ns := ys) (i := at_) (r.map V.int).length (by rw [List.length_map]; omega) (by rw [List.length_map]; omega)
          exact ⟨_, rfl, _, rfl, _, rfl, b, _, rfl, .inr (SqT.of hb), _, _, rfl, rfl, by show (0 : Int) < ((r.map V.int).length : Int); rw [List.length_map]; omega, L, _, _, _, rfl, rfl, SqL.of hL, hx, q _⟩))) pss_nil)
      (pss_cons (ps_if (pt_cmpR op_eq (pv 0) pe_int (nomark _)) (pss_one (ps_ret (PE.imp (t' := tA) (pe_op op_fdiv (pe_callB (cr_sumT rfl) (by rfl) B.sum (by decide +kernel) (pa_cons (pv 2) pa_nil)) (pe_callB call_len_seq (by rfl) B.len PySem.boot_len (pa_cons (pv 2) pa_nil))) fun σ H Q ⟨⟨kind, at_, top, b, L, r, ys, e, h1, h2, hb, hL, h0, h6, hl⟩, q⟩ => by
          subst e
          exact ⟨_, rfl, b, r, rfl, SqT.of hb, _, rfl, b, _, rfl, .inr (SqT.of hb), _, _, rfl, rfl, ⟨by rw [List.length_map]; omega, by rw [List.length_map]; omega⟩, q _⟩))) pss_nil)
      (pss_cons (ps_if (pt_cmpR op_eq (pv 0) pe_int (nomark _)) (pss_one (ps_ret (PE.imp (t' := tA) (pe_ix ix_tup (pv 2) (pe_op op_mod (pv 1) (pe_callB call_len_seq (by rfl) B.len PySem.boot_len (pa_cons (pv 2) pa_nil))) (fun _ _ => rfl)) fun σ H Q ⟨⟨kind, at_, top, b, L, r, ys, e, h1, h2, hb, hL, h0, h6, hl⟩, q⟩ => by
          subst e
          obtain ⟨x, hx⟩ := mod_at (ns := r) (i := at_) (r.map V.int).length (by rw [List.length_map]) (by rw [List.length_map]; omega)
          exact ⟨_, rfl, _, rfl, _, rfl, b, _, rfl, .inr (SqT.of hb), _, _, rfl, rfl, by show (0 : Int) < ((r.map V.int).length : Int); rw [List.length_map]; omega, b, _, _, _, rfl, rfl, SqT.of hb, hx, q _⟩))) pss_nil)
      (pss_cons (ps_if (pt_cmpR op_eq (pv 0) pe_int (nomark _)) (pss_one (ps_ret (PE.imp (t' := tA) (pe_callB (call_max2 rfl) (by rfl) B.max (by decide +kernel) (pa_cons (pe_ix ix_tup (pv 2) pe_int (fun _ _ => rfl)) (pa_cons (pe_callB (call_min2 rfl) (by rfl) B.min (by decide +kernel) (pa_cons (pe_ix ix_tup (pv 2) (pe_un un_neg pe_int) (fun _ _ => rfl)) (pa_cons (pe_op op_mod (pv 1) (pe_op op_add (pv 3) pe_int)) pa_nil))) pa_nil))) fun σ H Q ⟨⟨kind, at_, top, b, L, r, ys, e, h1, h2, hb, hL, h0, h6, hl⟩, q⟩ => by
          subst e
          obtain ⟨x, hx⟩ := last_int (r := r) h0
          exact ⟨_, rfl, b, _, 0, _, rfl, rfl, SqT.of hb, atI_nat (j := 0) (get_int (by omega)), _, rfl, 1, rfl, b, _, -1, _, rfl, rfl, SqT.of hb, hx, _, rfl, _, rfl, _, _, rfl, rfl, _, _, rfl, rfl, by show (0 : Int) < top + 1; omega, _, _, rfl, _, _, rfl, q _⟩))) pss_nil)
      (pss_cons (ps_if (pt_cmpR op_eq (pv 0) pe_int (nomark _)) (pss_one (ps_ret (PE.imp (t' := tA) (pe_callB (call_min2 rfl) (by rfl) B.min (by decide +kernel) (pa_cons (pe_ix ix_tup (pv 2) (pe_op op_mod (pv 1) (pe_callB call_len_seq (by rfl) B.len PySem.boot_len (pa_cons (pv 2) pa_nil))) (fun _ _ => rfl)) (pa_cons (pe_op op_add (pe_ix ix_tup (pv 2) (pe_un un_neg pe_int) (fun _ _ => rfl)) pe_int) pa_nil))) fun σ H Q ⟨⟨kind, at_, top, b, L, r, ys, e, h1, h2, hb, hL, h0, h6, hl⟩, q⟩ => by
          subst e
          obtain ⟨x, hx⟩ := last_int (r := r) h0
          obtain ⟨y, hy⟩ := mod_at (ns := r) (i := at_) (r.map V.int).length (by rw [List.length_map]) (by rw [List.length_map]; omega)
          exact ⟨_, rfl, _, rfl, _, rfl, b, _, rfl, .inr (SqT.of hb), _, _, rfl, rfl, by show (0 : Int) < ((r.map V.int).length : Int); rw [List.length_map]; omega, b, _, _, _, rfl, rfl, SqT.of hb, hy, _, rfl, 1, rfl, b, _, -1, _, rfl, rfl, SqT.of hb, hx, _, _, rfl, rfl, _, _, rfl, q _⟩))) pss_nil)
      (pss_one (ps_ret (PE.imp (t' := tA) (pe_ifExp (pt_cmpR op_ge (pe_ix ix_tup (pv 2) (pe_un un_neg pe_int) (fun _ _ => rfl)) (pe_op op_mod (pv 1) (pe_op op_add (pv 3) pe_int)) (nomark _)) (pe_ix ix_tup (pv 2) pe_int (fun _ _ => rfl)) (pe_ix ix_list (pv 4) pe_int (fun _ _ => rfl))) fun σ H Q ⟨⟨kind, at_, top, b, L, r, ys, e, h1, h2, hb, hL, h0, h6, hl⟩, q⟩ => by
          subst e
          obtain ⟨x, hx⟩ := last_int (r := r) h0
          exact ⟨_, rfl, 1, rfl, b, _, -1, _, rfl, rfl, SqT.of hb, hx, _, rfl, _, rfl, _, _, rfl, rfl, _, _, rfl, rfl, by show (0 : Int) < top + 1; omega, _, _, rfl, rfl, _, rfl, ite2 (fun _ => ⟨_, rfl, b, _, 0, _, rfl, rfl, SqT.of hb, atI_nat (j := 0) (get_int (by omega)), q _⟩) (fun _ => ⟨_, rfl, L, _, 0, _, rfl, rfl, SqL.of hL, atI_nat (j := 0) (get_int (by omega)), q _⟩)⟩)))))))))), ?_⟩
    refine ⟨.ref b, rfl, b, r, rfl, SqT.of hb, h64, fun ys L perm _ nL => ?_⟩
    have sL := same_upd (o := .lst (ys.map V.int)) nL
    have A1 : AnsS [some (.int kind), some (.int at_), some (.ref b), some (.int top), some (.ref L)] (upd H L (.lst (ys.map V.int))) := ⟨kind, at_, top, b, L, r, ys, rfl, ha, ht, sL _ _ hb, upd_same, h0, h64, perm.length_eq⟩
    have Q1 : ∀ x : Int, Q (.int x) (upd H L (.lst (ys.map V.int))) := fun x => q x _ sL
    refine ⟨_, rfl, rfl, _, rfl, ite2 (fun _ => ⟨A1, Q1⟩) (fun _ => ?_)⟩
    refine ⟨_, rfl, rfl, _, rfl, ite2 (fun _ => ⟨A1, Q1⟩) (fun _ => ?_)⟩
    refine ⟨_, rfl, rfl, _, rfl, ite2 (fun _ => ⟨A1, Q1⟩) (fun _ => ?_)⟩
    refine ⟨_, rfl, rfl, _, rfl, ite2 (fun _ => ⟨A1, Q1⟩) (fun _ => ?_)⟩
    refine ⟨_, rfl, rfl, _, rfl, ite2 (fun _ => ⟨A1, Q1⟩) (fun _ => ?_)⟩
    refine ⟨_, rfl, rfl, _, rfl, ite2 (fun _ => ⟨A1, Q1⟩) (fun _ => ?_)⟩
    refine ⟨_, rfl, rfl, _, rfl, ite2 (fun _ => ⟨A1, Q1⟩) (fun _ => ?_)⟩
    exact ⟨A1, Q1⟩
end
end K17
namespace K17
open PySem PySem.Spec PyProof.Rows L2 KX M17
/-! ### what stays -/
def Exc (l : List Addr) (H H' : Hp) : Prop := ∀ b o, b ∉ l → H b = some o → H' b = some o
theorem Exc.refl (l : List Addr) (H : Hp) : Exc l H H := fun _ _ _ e => e
theorem Exc.trans {l : List Addr} {H H1 H2 : Hp} (h : Exc l H H1) (h2 : Exc l H1 H2) : Exc l H H2 := fun b o n e => h2 b o n (h b o n e)
theorem Exc.of_same {l : List Addr} {H H' : Hp} (h : Same H H') : Exc l H H' := fun b o _ e => h b o e
theorem Exc.of_upto {l : List Addr} {a : Addr} {H H' : Hp} (h : Upto a H H') (ha : a ∈ l) : Exc l H H' := fun b o n e => by
  rw [h b fun z => n (z ▸ ha)]
  exact e
theorem Exc.mono {l l' : List Addr} {H H' : Hp} (h : Exc l H H') (s : ∀ b ∈ l, b ∈ l') : Exc l' H H' := fun b o n e => h b o (fun z => n (s b z)) e
theorem Exc.put {l : List Addr} {H H' : Hp} {D : Addr} {o : HO} (h : Exc l H H') (hd : D ∈ l) : Exc l H (upd H' D o) := fun b x n e => by
  have ne : b ≠ D := fun z => n (by rw [z]; exact hd)
  rw [upd_ne ne]
  exact h b x n e
theorem Exc.drop {a D : Addr} {H H' : Hp} (h : Exc [a, D] H H') (n : H D = none) : Exc [a] H H' := fun b o nb e => by
  refine h b o (fun z => ?_) e
  rcases List.mem_cons.mp z with z | z
  · exact nb (z ▸ List.mem_cons_self ..)
  · rw [List.mem_singleton.mp z, n] at e
    cases e
theorem Src.same {H H' : Hp} {a : Addr} (s : Src H a) (h : Same H H') : Src H' a := by
  obtain ⟨x0, x1, x2, x3, e⟩ := s
  exact ⟨x0, x1, x2, x3, h _ _ e⟩
theorem Src.ne {H : Hp} {a b : Addr} (s : Src H a) (n : H b = none) : b ≠ a := fun z => by
  obtain ⟨x0, x1, x2, x3, e⟩ := s
  rw [z, e] at n
  cases n
theorem Src.put {H : Hp} {a D : Addr} {o : HO} (s : Src H a) (n : a ≠ D) : Src (upd H D o) a := by
  obtain ⟨x0, x1, x2, x3, e⟩ := s
  exact ⟨x0, x1, x2, x3, by rw [upd_ne n]; exact e⟩
theorem Src.tup {H : Hp} {a c : Addr} {xs : List V} (s : Src H a) (e : H c = some (.tup xs)) : c ≠ a := fun z => by
  obtain ⟨x0, x1, x2, x3, ea⟩ := s
  rw [z, ea] at e
  cases e
theorem Src.dT {H : Hp} {a c : Addr} {k : List (List Key × V)} (s : Src H a) (e : H c = some (.dT k)) : c ≠ a := fun z => by
  obtain ⟨x0, x1, x2, x3, ea⟩ := s
  rw [z, ea] at e
  cases e
theorem Exc.tup1 {H H' : Hp} {a c : Addr} {xs : List V} (h : Exc [a] H H') (s : Src H a) (e : H c = some (.tup xs)) : H' c = some (.tup xs) := h c _ (fun z => s.tup e (List.mem_singleton.mp z)) e
theorem Exc.dT1 {H H' : Hp} {a c : Addr} {k : List (List Key × V)} (h : Exc [a] H H') (s : Src H a) (e : H c = some (.dT k)) : H' c = some (.dT k) := h c _ (fun z => s.dT e (List.mem_singleton.mp z)) e
theorem tab_set {rows : List (List Int)} {g : List Int → Int} {r : List Int} {x : Int} (h : r ∉ rows) : tabK rows (setG g r x) = tabK rows g := by
  unfold tabK
  refine List.map_congr_left fun t ht => ?_
  show (kR t, V.int (if t = r then x else g t)) = (kR t, V.int (g t))
  have ne : ¬ t = r := fun z => h (by rw [← z]; exact ht)
  rw [if_neg ne]
theorem put_next {rows : List (List Int)} {g : List Int → Int} {r : List Int} {x : Int} (h : r ∉ rows) : putK (tabK rows g) (kR r) (.int x) = tabK (rows ++ [r]) (setG g r x) := by
  have z := put_new (g := setG g r x) h
  have e : setG g r x r = x := if_pos rfl
  rw [e, tab_set h] at z
  exact z
theorem not_take {j : Nat} {top : Int} {i : Nat} (hi : i < (rowsOf j top).length) : (rowsOf j top)[i] ∉ (rowsOf j top).take i := fun hm => by
  obtain ⟨m, hm1, hm2⟩ := List.getElem_of_mem hm
  rw [List.length_take] at hm1
  rw [List.getElem_take] at hm2
  have z := (List.getElem_inj (rows_nodup j top)).mp hm2
  omega
theorem keys_mem {H : Hp} : ∀ {kvs : List (List Key × V)} {bs : List Addr}, IsKeys H kvs bs → ∀ c ∈ bs, ∃ p ∈ kvs, H c = some (.tup (p.1.map kV))
  | _, _, .nil => fun c hc => absurd hc List.not_mem_nil
  | _, _, .cons h t => fun c hc => by
    rcases List.mem_cons.mp hc with e | hc
    · exact ⟨_, List.mem_cons_self .., by rw [e]; exact h⟩
    · obtain ⟨p, hp, e⟩ := keys_mem t c hc
      exact ⟨p, List.mem_cons_of_mem _ hp, e⟩
theorem keys_row {H : Hp} {rows : List (List Int)} {g : List Int → Int} {bs : List Addr} {c : Addr} (h : IsKeys H (tabK rows g) bs) (hc : c ∈ bs) : ∃ r ∈ rows, H c = some (.tup (r.map V.int)) := by
  obtain ⟨p, hp, e⟩ := keys_mem h c hc
  obtain ⟨r, hr, rfl⟩ := List.mem_map.mp hp
  exact ⟨r, hr, by rw [← kR_V]; exact e⟩
/-! ### the table -/
structure Box (j : Nat) (top : Int) : Prop where
  j1 : 1 ≤ j
  j63 : j < 64
  t0 : 0 ≤ top
  t1 : top ≤ 900
  n : (top + 1).toNat ^ j ≤ 1000
theorem Box.len {j : Nat} {top : Int} (b : Box j top) : (rowsOf j top).length ≤ 1000 := by
  rw [rows_len]
  exact b.n
theorem Box.pos {j : Nat} {top : Int} (b : Box j top) : 0 < (rowsOf j top).length := by
  rw [rows_len]
  exact Nat.pow_pos (by have := b.t0; omega)
/-- the slots of _law_table, the table whole -/
def TabI (a D : Addr) (j : Nat) (top : Int) (Hr : Hp) (σ : L2.St) (H : Hp) : Prop := ∃ (kd at_ : Int) (y6 y7 y8 : Option V) (g : List Int → Int), σ = [some (.ref a), some (.int j), some (.int top), some (.int kd), some (.int at_), some (.ref D), y6, y7, y8] ∧ Exc [a, D] Hr H ∧ Src H a ∧ H D = some (.dT (tabK (rowsOf j top) g))
def tTab : TS := fun E σ H => ∃ a D j top Hr, Box j top ∧ TabI a D j top Hr σ H ∧ ∀ σ' H', TabI a D j top Hr σ' H' → E.nx σ' H'
def tVal : TE := fun σ H Q => ∃ (a D c : Addr) (j : Nat) (top kd at_ : Int) (r : List Int) (y7 y8 : Option V), σ = [some (.ref a), some (.int j), some (.int top), some (.int kd), some (.int at_), some (.ref D), some (.ref c), y7, y8] ∧ Box j top ∧ 0 ≤ at_ ∧ Src H a ∧ H c = some (.tup (r.map V.int)) ∧ r.length = j ∧ ∀ (x : Int) H', Exc [a] H H' → Src H' a → Q (.int x) H'
section
variable {P : Program} {w : World} {K : PySem.W.Frag} {mg : Str → Option Value} {base : Heap}
def spTab : Sp := fun vs H Q _ => ∃ (a : Addr) (j : Nat) (top : Int), vs = [.ref a, .int j, .int top] ∧ Box j top ∧ Src H a ∧ ∀ H' d g, Exc [a] H H' → Src H' a → H d = none → H' d = some (.dT (tabK (rowsOf j top) g)) → Q (.ref d) H'
/-- the defs of the law that draw -/
structure Drw (K : PySem.W.Frag) (mg : Str → Option Value) (fP fO fT fA : Addr) (dP dO dT dA : FuncData) : Prop where
  FP : Fun K "_law_pick" "_law_pick" sPick fP dP
  bP : Binds K dP ["s", "many"] []
  gP : mg "_law_pick" = some (.ref fP)
  FO : Fun K "_law_one" "_law_one" sOne fO dO
  bO : Binds K dO ["s", "things"] []
  gO : mg "_law_one" = some (.ref fO)
  FT : Fun K "_law_tuples" "_law_tuples" sLT fT dT
  bT : Binds K dT ["judges", "top"] []
  gT : mg "_law_tuples" = some (.ref fT)
  FA : Fun K "_law_answer" "_law_answer" sLA fA dA
  bA : Binds K dA ["kind", "at", "row", "top"] []
  gA : mg "_law_answer" = some (.ref fA)
variable {fP fO fT fA : Addr} {dP dO dT dA : FuncData}
theorem ok_Tab {f : Addr} {fd : FuncData} (F : Fun K "_law_table" "_law_table" sTab f fd) (R : Drw K mg fP fO fT fA dP dO dT dA) (B : Blt mg) : FnOk P w K mg base CX0 3 f fd ["s", "judges", "top"] spTab := by
  have GP : FnOk P w K mg base CX0 1 fP dP ["s", "many"] spPick := ok_Pick R.FP B.int
  have GO : FnOk P w K mg base CX0 2 fO dO ["s", "things"] spOne := ok_One R.FO R.FP R.bP R.gP B.int B.len
  have GT : FnOk P w K mg base CX0 1 fT dT ["judges", "top"] spLT := ok_LT R.FT B
  have GA : FnOk P w K mg base CX0 1 fA dA ["kind", "at", "row", "top"] spLA := ok_LA R.FA B
  refine F.ok scTab (fun vs H Q E h => ?_) (fun cdv A outer s H vs Q E hr h => ?_)
  · obtain ⟨a, j, top, rfl, _⟩ := h
    rfl
  · obtain ⟨a, j, top, rfl, bx, hs, q⟩ := h
    have hu := hu_of hr
    have hr1 := hr.mono (show 1 ≤ 2 by decide)
    refine ⟨_, pss_cons (ps_par3 (i := 3) (j := 4) (l := 5) rfl scTab.nd rfl rfl rfl (by decide) (by decide) (by decide) rfl rfl rfl (pa_cons (pe_call GP hr1 (by rfl) R.gP R.FP.kp R.bP .nil pass0 (pa_cons (pv 0) (pa_cons pe_int pa_nil))) (pa_cons (pe_call GP hr1 (by rfl) R.gP R.FP.kp R.bP .nil pass0 (pa_cons (pv 0) (pa_cons pe_int pa_nil))) (pa_cons pe_dnewT pa_nil))) (by rfl))
      (pss_cons (ps_for PassesOwn.never rfl (pi_list (pe_call GT hr1 (by rfl) R.gT R.FT.kp R.bT .nil pass0 (pa_cons (pv 1) (pa_cons (pv 2) pa_nil)))) (pg_name (i := 6) scTab.nd rfl (.inl rfl))
        (pss_one (ps_dput hu (pv 5) (pv 6) (PE.imp (t' := tVal) (pe_ifExp (pt_cmpR op_eq (pv 3) pe_int (nomark _)) (pe_call GP hr1 (by rfl) R.gP R.FP.kp R.bP .nil pass0 (pa_cons (pv 0) (pa_cons (pe_op op_add (pv 2) pe_int) pa_nil))) (pe_call GA hr1 (by rfl) R.gA R.FA.kp R.bA .nil pass0 (pa_cons (pv 3) (pa_cons (pv 4) (pa_cons (pv 6) (pa_cons (pv 2) pa_nil))))))
          (fun σ H Q ⟨a, D, c, j, top, kd, at_, r, y7, y8, e, bx, h4, hs, hc, hl, q⟩ => by
            subst e
            obtain ⟨j1, j63, t0, t1, n⟩ := bx
            refine ⟨_, rfl, rfl, _, rfl, ite2 (fun _ => ?_) (fun _ => ?_)⟩
            · exact ⟨_, rfl, _, rfl, _, _, rfl, rfl, a, top + 1, rfl, hs, by omega, fun x H' _ _ _ u s => q x H' (.of_upto u (List.mem_cons_self ..)) s⟩
            · exact ⟨_, rfl, _, rfl, _, rfl, _, rfl, kd, at_, top, c, r, rfl, h4, t0, hc, by omega, by omega, fun x H' sm => q x H' (.of_same sm) (hs.same sm)⟩)) rfl)))
      (pss_cons (PS.imp (t' := tTab) (ps_if (PW.pt (pw_and (pt_cmpR op_eq (pv 3) pe_int (nomark _)) (pw_and1 (pt_truth (pe_call GP hr1 (by rfl) R.gP R.FP.kp R.bP .nil pass0 (pa_cons (pv 0) (pa_cons pe_int pa_nil))) (by intro _; rfl)))))
          (pss_one (ps_for PassesOwn.never rfl (pi_range1 rfl B.range (pa_cons (pe_op op_add (pv 2) pe_int) pa_nil)) (pg_name (i := 7) scTab.nd rfl (.inl rfl)) (pss_one (ps_dput hu (pv 5) (pe_op op_repA (pe_tup (pa_cons (pv 7) pa_nil)) (pv 1)) (pv 7) rfl)))) pss_nil)
          (fun E σ H ⟨a, D, j, top, Hr, bx, ti, q⟩ => by
            have ti0 := ti
            obtain ⟨kd, at_, y6, y7, y8, g, e, ex, hs, hD⟩ := ti
            subst e
            obtain ⟨j1, j63, t0, t1, n⟩ := id bx
            refine ⟨_, rfl, rfl, _, rfl, ite2 (fun _ => ?_) (fun _ => iteF (q _ _ ti0))⟩
            refine ⟨_, rfl, a, 2, rfl, hs, by decide, fun x H1 _ _ _ u1 s1 => ⟨_, rfl, ite2 (fun _ => ?_) (fun _ => ?_)⟩⟩
            · refine ⟨.int top, rfl, top, 1, rfl, rfl, top + 1, rfl, by omega, by omega, f_rng (lo := 0) (fun i σ H2 => TabI a D j top Hr σ H2) ⟨kd, at_, y6, y7, y8, g, rfl, ex.trans (.of_upto u1 (List.mem_cons_self ..)), s1, (u1 D (hs.dT hD)).trans hD⟩ (fun i σ H2 hi hp => ?_) (fun σ H2 hp => q _ _ hp)⟩
              obtain ⟨kd, at_, y6, y7, y8, g, rfl, ex2, s2, hD2⟩ := hp
              have i0 : 0 ≤ 0 + (i : Int) := by omega
              have i1 : 0 + (i : Int) ≤ top := by omega
              generalize 0 + (i : Int) = t at i0 i1
              refine ⟨.int t, rfl, .ref D, rfl, .int t, rfl, line1, fun p np => ⟨.int j, rfl, rep_any upd_same j1 (by omega) fun H3 z s3 ez => ?_⟩⟩
              have sp := (same_upd (o := .tup [.int t]) np).trans s3
              have hD3 := sp _ _ hD2
              refine ⟨D, _, rfl, DPut.t hD3 (by rw [kR_V]; exact ez) (line_lt (by rw [tab_len]; have := bx.len; omega)), ?_⟩
              rw [put_tab (mem_rows.mpr (rep_box i0 i1))]
              exact ⟨kd, at_, y6, some (.int t), y8, _, rfl, (ex2.trans (.of_same sp)).put (by simp), (s2.same sp).put (Ne.symm (s2.dT hD2)), upd_same⟩
            · exact q _ _ ⟨kd, at_, y6, y7, y8, g, rfl, ex.trans (.of_upto u1 (List.mem_cons_self ..)), s1, (u1 D (hs.dT hD)).trans hD⟩))
      (pss_cons (PS.imp (t' := tTab) (ps_for PassesOwn.never rfl (pi_range1 rfl B.range (pa_cons (pe_call GP hr1 (by rfl) R.gP R.FP.kp R.bP .nil pass0 (pa_cons (pv 0) (pa_cons pe_int pa_nil))) pa_nil)) (pg_name (i := 8) scTab.nd rfl (.inl rfl))
          (pss_cons (ps_set (i := 6) scTab.nd rfl (.inl rfl) (pe_call GO hr (by rfl) R.gO R.FO.kp R.bO .nil pass0 (pa_cons (pv 0) (pa_cons (pe_callTy (call_list_dT rfl) (by rfl) B.list (by decide +kernel) (pa_cons (pv 5) pa_nil)) pa_nil))))
          (pss_one (ps_dput hu (pv 5) (pv 6) (pe_op op_add (pe_dget hu (pv 5) (pv 6) (fun _ _ => rfl)) (pe_call GO hr (by rfl) R.gO R.FO.kp R.bO .nil pass0 (pa_cons (pv 0) (pa_cons (pe_lst (pa_cons pe_int (pa_cons (pe_op op_sub pe_int pe_int) (pa_cons pe_int (pa_cons (pe_op op_sub pe_int pe_int) (pa_cons (pv 2) (pa_cons (pe_op op_sub pe_int (pv 2)) pa_nil))))))) pa_nil)))) rfl))))
          (fun E σ H ⟨a, D, j, top, Hr, bx, ti, q⟩ => by
            obtain ⟨kd, at_, y6, y7, y8, g, e, ex, hs, hD⟩ := ti
            subst e
            obtain ⟨j1, j63, t0, t1, n⟩ := id bx
            refine ⟨_, rfl, a, 3, rfl, hs, by decide, fun x H1 x0 _ x1 u1 s1 => ⟨x, rfl, by omega, by have := x1 (by decide); omega, f_rng (lo := 0) (fun i σ H2 => TabI a D j top Hr σ H2) ⟨kd, at_, y6, y7, y8, g, rfl, ex.trans (.of_upto u1 (List.mem_cons_self ..)), s1, (u1 D (hs.dT hD)).trans hD⟩ (fun i σ H2 hi hp => ?_) (fun σ H2 hp => q _ _ hp)⟩⟩
            obtain ⟨kd, at_, y6, y7, y8, g, rfl, ex2, s2, hD2⟩ := hp
            refine ⟨.ref a, rfl, .ref D, rfl, D, _, rfl, .inl hD2, fun p bs np ks => ?_⟩
            have sp := same_upd (o := .lst (bs.map V.ref)) np
            have blen : bs.length = (rowsOf j top).length := by
              rw [← tab_len (rowsOf j top) g]
              exact (Paired.length ks).symm
            refine ⟨a, p, _, rfl, s2.same sp, upd_same, s2.ne np, by rw [List.length_map, blen]; exact bx.pos, by rw [List.length_map, blen]; exact bx.len, fun y H3 hy u3 s3 => ?_⟩
            obtain ⟨c, hc, rfl⟩ := List.mem_map.mp hy
            obtain ⟨r, hrr, ec⟩ := keys_row ks hc
            have ec2 := sp _ _ ec
            have ec3 : H3 c = some (.tup (r.map V.int)) := (u3 c ((s2.same sp).tup ec2)).trans ec2
            have hD3 : H3 D = some (.dT (tabK (rowsOf j top) g)) := (u3 D ((s2.same sp).dT (sp _ _ hD2))).trans (sp _ _ hD2)
            refine ⟨.ref D, rfl, .ref c, rfl, D, _, rfl, dget (.inl hD3) ec3 hrr, .ref a, rfl, _, _, rfl, rfl, _, _, rfl, rfl, .int top, rfl, .int top, rfl, _, _, rfl, rfl, line_le (Nat.le_of_ble_eq_true rfl), fun l nl => ?_⟩
            have sl := same_upd (o := .lst [V.int 1, V.int (0 - 1), V.int 1, V.int (0 - 1), V.int top, V.int (0 - top)]) nl
            refine ⟨a, l, _, rfl, s3.same sl, upd_same, s3.ne nl, by show 0 < 6; decide, by show 6 ≤ 1000; decide, fun y H4 hy u4 s4 => ?_⟩
            have hy2 : ∃ n, y = V.int n := by
              have hy3 : y ∈ [(1 : Int), 0 - 1, 1, 0 - 1, top, 0 - top].map V.int := hy
              obtain ⟨n, _, e⟩ := List.mem_map.mp hy3
              exact ⟨n, e.symm⟩
            obtain ⟨n, rfl⟩ := hy2
            have ec4 : H4 c = some (.tup (r.map V.int)) := (u4 c ((s3.same sl).tup (sl _ _ ec3))).trans (sl _ _ ec3)
            have hD4 : H4 D = some (.dT (tabK (rowsOf j top) g)) := (u4 D ((s3.same sl).dT (sl _ _ hD3))).trans (sl _ _ hD3)
            refine ⟨_, _, rfl, rfl, .ref D, rfl, .ref c, rfl, D, _, rfl, DPut.t hD4 (by rw [kR_V]; exact ec4) (line_lt (by rw [tab_len]; have := bx.len; omega)), ?_⟩
            rw [put_tab hrr]
            exact ⟨kd, at_, some (.ref c), y7, _, _, rfl, ((((ex2.trans (.of_same sp)).trans (.of_upto u3 (List.mem_cons_self ..))).trans (.of_same sl)).trans (.of_upto u4 (List.mem_cons_self ..))).put (by simp), s4.put (Ne.symm (s4.dT hD4)), upd_same⟩))
      (pss_one (ps_ret (pv 5)))))), ?_⟩
    obtain ⟨j1, j63, t0, t1, n⟩ := id bx
    refine ⟨.ref a, rfl, a, 9, rfl, hs, by decide, fun kd H1 _ _ _ u1 s1 => ⟨.ref a, rfl, a, 7, rfl, s1, by decide, fun at_ H2 at0 _ _ u2 s2 => fun D nD => ⟨_, _, _, rfl, ?_⟩⟩⟩
    have sD := same_upd (o := .dT []) nD
    have nD0 : H D = none := by
      rw [← u1 D (fun z => (s1.ne ((u2 D (s2.ne nD)).symm.trans nD)) z), ← u2 D (s2.ne nD)]
      exact nD
    have naD : a ≠ D := Ne.symm (s2.ne nD)
    have ex2 : Exc [a, D] H (upd H2 D (.dT [])) := ((Exc.of_upto u1 (List.mem_cons_self ..)).trans (.of_upto u2 (List.mem_cons_self ..))).put (by simp)
    have s2D : Src (upd H2 D (.dT [])) a := s2.put naD
    refine ⟨.int j, rfl, .int top, rfl, j, top, rfl, by omega, t0, by omega, n, fun H3 L as s3 nL eL rw3 => ?_⟩
    have s3a := s2D.same s3
    have nLa : L ≠ a := s2D.ne nL
    have hD3 : H3 D = some (.dT []) := s3 _ _ upd_same
    have nLD : L ≠ D := fun z => by rw [z, hD3] at eL; cases eL
    refine ⟨L, rfl, ⟨_, SqL.of eL⟩, f_list (xs := as.map V.ref) (fun i σ H4 => ∃ (y6 : Option V) (g : List Int → Int), σ = [some (.ref a), some (.int j), some (.int top), some (.int kd), some (.int at_), some (.ref D), y6, none, none] ∧ Exc [a, D] H3 H4 ∧ Src H4 a ∧ H4 D = some (.dT (tabK ((rowsOf j top).take i) g)))
      ⟨none, fun _ => 0, rfl, Exc.refl _ _, s3a, hD3⟩ (fun i σ H4 _ hp => ?_) (fun i x σ H4 hx hp => ?_) (fun σ H4 hp => ?_)⟩
    · obtain ⟨_, _, _, ex, _⟩ := hp
      exact SqL.of (ex L _ (by simp [nLa, nLD]) eL)
    · obtain ⟨y6, g, rfl, ex, s4, hD4⟩ := hp
      obtain ⟨c, hc, rfl⟩ := refs_at hx
      have hi : i < (rowsOf j top).length := by
        rw [← rw3.1]
        exact (List.getElem?_eq_some_iff.mp hc).1
      have hr2 : (rowsOf j top)[i]? = some (rowsOf j top)[i] := List.getElem?_eq_getElem hi
      have ec3 := rw3.2 i c _ hc hr2
      have ncD : c ≠ D := fun z => by rw [z, hD3] at ec3; cases ec3
      have ec := ex c _ (by simp [s3a.tup ec3, ncD]) ec3
      have hnew := not_take hi
      have hin := List.getElem_mem hi
      generalize (rowsOf j top)[i] = r at hr2 ec hnew hin
      refine ⟨a, D, c, j, top, kd, at_, r, none, none, rfl, bx, at0, s4, ec, (mem_rows.mp hin).1, fun x H5 e5 s5 => ?_⟩
      have ec5 := e5.tup1 s4 ec
      have hD5 := e5.dT1 s4 hD4
      refine ⟨.ref D, rfl, .ref c, rfl, D, _, rfl, DPut.t hD5 (by rw [kR_V]; exact ec5) (line_lt (by rw [tab_len, List.length_take]; have := bx.len; omega)), ?_⟩
      rw [put_next hnew]
      refine ⟨_, setG g r x, rfl, (ex.trans (e5.mono (by simp))).put (by simp), s5.put naD, ?_⟩
      rw [upd_same, List.take_add_one, hr2]
      rfl
    · obtain ⟨y6, g, rfl, ex, s4, hD4⟩ := hp
      rw [List.length_map, rw3.1, List.take_length] at hD4
      have exH : Exc [a, D] H H4 := (ex2.trans (.of_same s3)).trans ex
      refine ⟨a, D, j, top, H, bx, ⟨kd, at_, y6, none, none, g, rfl, exH, s4, hD4⟩, fun σ' H' ti => ⟨a, D, j, top, H, bx, ti, fun σ2 H2 ti2 => ?_⟩⟩
      obtain ⟨kd2, at2, z6, z7, z8, g2, rfl, ex5, s5, hD5⟩ := ti2
      exact ⟨.ref D, rfl, q H2 D g2 (ex5.drop nD0) s5 nD0 hD5⟩
end
end K17
namespace K17
open PySem PySem.Spec PyProof.Rows L2 KX M17 NdefX LamX
abbrev sRead : Stmt := topS 28
abbrev sVoice : Stmt := topS 29
abbrev sRule : Stmt := (defBody sRead).getD 0 (.Pass ⟨0, 0, 0, 0⟩)
abbrev sTold : Stmt := (defBody sVoice).getD 0 (.Pass ⟨0, 0, 0, 0⟩)
theorem scRd : FnScope ["table", "_law_rule"] ["table"] (defScope sRead) := ⟨rfl, rfl, rfl, by decide +kernel, rfl, by decide +kernel, by decide +kernel⟩
theorem scVo : FnScope ["at", "_law_told"] ["at"] (defScope sVoice) := ⟨rfl, rfl, rfl, by decide +kernel, rfl, by decide +kernel, by decide +kernel⟩
theorem nsRule : nscB ["row", "table"] ["row"] ["table"] (C8.fnScope sRule) = true := by decide +kernel
theorem nsTold : nscB ["row", "at"] ["row"] ["at"] (C8.fnScope sTold) = true := by decide +kernel
theorem ndRule : ndefB (defScope sRead) (C8.fnScope sRule) ["table"] = true := by decide +kernel
theorem ndTold : ndefB (defScope sVoice) (C8.fnScope sTold) ["at"] = true := by decide +kernel
section
variable {P : Program} {w : World} {K : PySem.W.Frag} {mg : Str → Option Value} {base : Heap}
/-- the end of a def whose first parameter was captured: its cell is told -/
theorem exit_cell {N : List Str} {qual y : Str} {scope : Scope} {f : Addr} {cdv : Value} {A : Around} {outer : List Env} {s s' : Shared} {H H' : Hp} {E : XK} {σ : L2.St} {v x : V} {u : Value} {Q : VK} (J : L2.Inv (cxOf CX0 P w K mg base N qual scope f cdv A outer s H E) [] σ H' s')
    (hN : N[0]? = some y) (hσ : σ[0]? = some (some v)) (hk : scope.names.lookup y = some .cell) (rv : RelV x u) (q : ∀ c, (envOfC qual scope s.heap.objs.size f cdv).cells.lookup y = some c → H' c = none → Q x (upd H' c (CellO c v))) : CE outer P w H s Q u s' := by
  obtain ⟨m, hm, hl⟩ := J.loc
  obtain ⟨u0, r0, look⟩ := hl 0 y v hN hσ (.inr (.inl hk))
  rcases look with ⟨k, _⟩ | ⟨_, c, hc, z⟩
  · have k2 : scope.names.lookup y = some .local := k
    rw [hk] at k2
    cases k2
  · have free : H' c = none := J.freeC y c hc
    have above : s.heap.objs.size ≤ c := J.ok.cab y c rfl hc
    have noold : ∀ o, s.heap.get? c ≠ some o := fun o e => absurd (Heap.lt_size e) (Nat.not_lt.mpr above)
    have b := J.base
    have un : Un (frs outer) [] H H' s.heap s'.heap := b
    have nC : ∀ {b : Addr} {o : HO}, H' b = some o → b ≠ c := fun {b o} e z => by
      rw [z, free] at e
      cases e
    refine ⟨x, upd H' c (CellO c v), J.os, J.bare, { keep := un.keep, slot := un.slot, there := un.there, free := fun b o g n hx => ?_, tups := fun b xs g => ?_, frzs := fun b o xs g => ?_, tbls := fun b xs g => ?_ }, hok_put J.hok free fun H'' => cellO_ok r0 z, rv, q c hc free⟩
    · rw [upd_ne fun z => noold o (by rw [← z]; exact g)]
      exact un.free b o g n hx
    · have g2 := un.tups b xs g
      rw [upd_ne (nC g2)]
      exact g2
    · have g2 := un.frzs b o xs g
      rw [upd_ne (nC g2)]
      exact g2
    · obtain ⟨more, g2⟩ := un.tbls b xs g
      exact ⟨more, by rw [upd_ne (nC g2)]; exact g2⟩
/-! ### the rules within -/
def qRule : Str := "_law_read.<locals>._law_rule"
def qTold : Str := "_law_voice.<locals>._law_told"
def nfRule (c c' : Addr) : NF := NF.of sRule "_law_rule" qRule [("table", c)] c'
def nfTold (c c' : Addr) : NF := NF.of sTold "_law_told" qTold [("at", c)] c'
def spRule (ws : List (Option V)) : Sp := fun vs H Q _ => ∃ (d b : Addr) (rows : List (List Int)) (g : List Int → Int) (r : List Int), ws = [some (.ref d)] ∧ vs = [.ref b] ∧ H d = some (.dT (tabK rows g)) ∧ H b = some (.tup (r.map V.int)) ∧ r ∈ rows ∧ Q (.int (g r)) H
theorem ok_Rule (f c c' : Addr) : NOk P w K mg base CX0 1 f (nfRule c c') ["row"] ["table"] spRule := by
  refine nok_of (N := ["row", "table"]) (nscope_by nsRule) (fun doc pm ctv us hl => match us, hl with | [_], _ => rfl) (fun ws vs H Q E h => ?_) (fun A outer s H vs ws Q E hr hf hc hl h => ?_)
  · obtain ⟨d, b, rows, g, r, _, rfl, _⟩ := h
    rfl
  · obtain ⟨d, b, rows, g, r, rfl, rfl, hd, hb, hrr, q⟩ := h
    have hu := hu_of hr
    refine ⟨_, pss_one (ps_ret (pe_dget hu (pv 1) (pv 0) (fun _ _ => rfl))), ?_⟩
    exact ⟨.ref d, rfl, .ref b, rfl, d, _, rfl, dget (.inl hd) hb hrr, q⟩
def spTold (ws : List (Option V)) : Sp := fun vs H Q _ => ∃ (at_ : Nat) (b : Addr) (r : List Int), ws = [some (.int at_)] ∧ vs = [.ref b] ∧ H b = some (.tup (r.map V.int)) ∧ at_ < r.length ∧ Q (.int (r.getD at_ 0)) H
theorem ok_Told (f c c' : Addr) : NOk P w K mg base CX0 1 f (nfTold c c') ["row"] ["at"] spTold := by
  refine nok_of (N := ["row", "at"]) (nscope_by nsTold) (fun doc pm ctv us hl => match us, hl with | [_], _ => rfl) (fun ws vs H Q E h => ?_) (fun A outer s H vs ws Q E hr hf hc hl h => ?_)
  · obtain ⟨at_, b, r, _, rfl, _⟩ := h
    rfl
  · obtain ⟨at_, b, r, rfl, rfl, hb, hlt, q⟩ := h
    refine ⟨_, pss_one (ps_ret (pe_ix ix_tup (pv 0) (pv 1) (fun _ _ => rfl))), ?_⟩
    exact ⟨.ref b, rfl, .int at_, rfl, b, _, _, _, rfl, rfl, SqT.of hb, atI_nat (get_int hlt), q⟩
/-! ### the defs that hand them out -/
def tabsT (P1 P2 : Addr) : List NTab := [(P1, fun _ _ => qRule), (P2, fun _ _ => qTold)]
/-- what stands of a rule that was handed out -/
def RuleAt (H : Hp) (f c c' : Addr) (mk : Addr → Addr → NF) (v : V) : Prop := H f = some (FnO f (mk c c')) ∧ H c' = some (CodeO c' (mk c c').qual) ∧ H c = some (CellO c v) ∧ c ≠ f ∧ c ≠ c'
def spOut (P1 P2 : Addr) (mk : Addr → Addr → NF) : Sp := fun vs H Q _ => ∃ v, vs = [v] ∧ TabsN (tabsT P1 P2) H ∧ ∀ H' f c c', ExtN H H' → TabsN (tabsT P1 P2) H' → H f = none → H c = none → RuleAt H' f c c' mk v → Q (.ref f) H'
theorem ok_Read {f P1 P2 : Addr} {fd : FuncData} {k : Nat} (F : Fun K "_law_read" "_law_read" sRead f fd) (TB : ∀ c, fd.code = .ref c → TabB base mg c P1) (ne : P1 ≠ P2) : FnOk P w K mg base CX0 (k + 1) f fd ["table"] (spOut P1 P2 nfRule) := by
  refine fn_ofC (st1 := sRule) F scRd rfl (fun vs H Q E h => ?_) (fun cdv A outer s H vs Q E hcd hci hr h => ?_)
  · obtain ⟨v, rfl, _⟩ := h
    rfl
  · obtain ⟨v, rfl, hT, q⟩ := h
    obtain ⟨c0, rfl⟩ := He.codeIn_ref hci
    refine ⟨_, _, fun σ x H1 => ∃ f c', x = .ref f ∧ σ[0]? = some (some v) ∧ ExtN H H1 ∧ TabsN (tabsT P1 P2) H1 ∧ H f = none ∧ (∀ b, H1 b = none → H b = none) ∧ H1 f = some (FnO f (nfRule (s.heap.objs.size + 1) c')) ∧ H1 c' = some (CodeO c' qRule),
      ps_ndefMS (st := sRule) (T := tabsT P1 P2) (nm := fun _ _ => qRule) (c := c0) (P := P1) (i := 1) rfl (TB c0 hcd) rfl (List.mem_cons_self ..) rfl (fun p hp e => ?_) (ndef_free ndRule) rfl rfl rfl scRd.nd rfl (.inl rfl) (.inr rfl), pv 1, ?_, fun σ H' s' x u J rv g => ?_⟩
    · rcases List.mem_cons.mp hp with e2 | hp
      · rw [e2]
      · rw [List.mem_singleton.mp hp] at e
        exact absurd e.symm ne
    · exact ⟨hT, fun f2 c' H1 eN nn T1 f0 f1 c1 => ⟨.ref f2, rfl, f2, c', rfl, rfl, eN, T1, f0, nn, f1, c1⟩⟩
    · obtain ⟨f2, c', rfl, hσ, eN, T1, f0, nn, f1, c1⟩ := g
      refine exit_cell J rfl hσ rfl rv fun c hc free => ?_
      have ec : c = s.heap.objs.size + 1 := by
        have z : [((Str.ofString "table"), s.heap.objs.size + 1)].lookup (Str.ofString "table") = some c := hc
        exact (Option.some.inj z).symm
      subst ec
      have su := same_upd (o := CellO (s.heap.objs.size + 1) v) free
      exact q _ f2 _ c' (fun b o e n => su _ _ (eN b o e n)) (T1.ext su) f0 (nn _ free) ⟨su _ _ f1, su _ _ c1, upd_same, (fun z => by rw [z, f1] at free; cases free), (fun z => by rw [z, c1] at free; cases free)⟩
theorem ok_Voice {f P1 P2 : Addr} {fd : FuncData} {k : Nat} (F : Fun K "_law_voice" "_law_voice" sVoice f fd) (TB : ∀ c, fd.code = .ref c → TabB base mg c P2) (ne : P1 ≠ P2) : FnOk P w K mg base CX0 (k + 1) f fd ["at"] (spOut P1 P2 nfTold) := by
  refine fn_ofC (st1 := sTold) F scVo rfl (fun vs H Q E h => ?_) (fun cdv A outer s H vs Q E hcd hci hr h => ?_)
  · obtain ⟨v, rfl, _⟩ := h
    rfl
  · obtain ⟨v, rfl, hT, q⟩ := h
    obtain ⟨c0, rfl⟩ := He.codeIn_ref hci
    refine ⟨_, _, fun σ x H1 => ∃ f c', x = .ref f ∧ σ[0]? = some (some v) ∧ ExtN H H1 ∧ TabsN (tabsT P1 P2) H1 ∧ H f = none ∧ (∀ b, H1 b = none → H b = none) ∧ H1 f = some (FnO f (nfTold (s.heap.objs.size + 1) c')) ∧ H1 c' = some (CodeO c' qTold),
      ps_ndefMS (st := sTold) (T := tabsT P1 P2) (nm := fun _ _ => qTold) (c := c0) (P := P2) (i := 1) rfl (TB c0 hcd) rfl (List.mem_cons_of_mem _ (List.mem_cons_self ..)) rfl (fun p hp e => ?_) (ndef_free ndTold) rfl rfl rfl scVo.nd rfl (.inl rfl) (.inr rfl), pv 1, ?_, fun σ H' s' x u J rv g => ?_⟩
    · rcases List.mem_cons.mp hp with e2 | hp
      · rw [e2] at e
        exact absurd e ne
      · rw [List.mem_singleton.mp hp]
    · exact ⟨hT, fun f2 c' H1 eN nn T1 f0 f1 c1 => ⟨.ref f2, rfl, f2, c', rfl, rfl, eN, T1, f0, nn, f1, c1⟩⟩
    · obtain ⟨f2, c', rfl, hσ, eN, T1, f0, nn, f1, c1⟩ := g
      refine exit_cell J rfl hσ rfl rv fun c hc free => ?_
      have ec : c = s.heap.objs.size + 1 := by
        have z : [((Str.ofString "at"), s.heap.objs.size + 1)].lookup (Str.ofString "at") = some c := hc
        exact (Option.some.inj z).symm
      subst ec
      have su := same_upd (o := CellO (s.heap.objs.size + 1) v) free
      exact q _ f2 _ c' (fun b o e n => su _ _ (eN b o e n)) (T1.ext su) f0 (nn _ free) ⟨su _ _ f1, su _ _ c1, upd_same, (fun z => by rw [z, f1] at free; cases free), (fun z => by rw [z, c1] at free; cases free)⟩
end
end K17
namespace K17
open PySem PySem.Spec PyProof.Rows L2 KX M17 NdefX LamX
abbrev sAsk : Stmt := topS 27
theorem scAsk : FnScope ["rule", "judges", "top", "which", "told", "error"] ["rule", "judges", "top", "which"] (defScope sAsk) := ⟨rfl, rfl, rfl, by decide +kernel, rfl, by decide +kernel, by decide +kernel⟩
theorem PSs.imp {X : Cx} {e : List Stmt} {t t' : TS} (h : PSs X e t) (i : ∀ D σ H, t' D σ H → t D σ H) : PSs X e t' := ⟨fun pins s σ H D I q => h.run pins s σ H D I (i D σ H q)⟩
def bndS (j : Nat) (top : Int) : Option String := if 100 < top then some "top" else if 3 < j then some "judges" else if 1000 < (top + 1).toNat ^ j then some "tables" else none
theorem bnd_eq (j : Nat) (top : Int) : bnd j top = (bndS j top).map Str.ofString := by
  unfold bnd bndS
  by_cases a : 100 < top
  · rw [if_pos a, if_pos a]
    rfl
  · rw [if_neg a, if_neg a]
    by_cases b : 3 < j
    · rw [if_pos b, if_pos b]
      rfl
    · rw [if_neg b, if_neg b]
      by_cases c : 1000 < (top + 1).toNat ^ j
      · rw [if_pos c, if_pos c]
        rfl
      · rw [if_neg c, if_neg c]
        rfl
def askD (which : Bool) (g : List Int → Int) (j : Nat) (top : Int) : D := match bndS j top with
  | some z => .tup [.str "TooMany", .str z]
  | none => if which = true then progD g j top else namedD g j top
theorem look1 {y z : Str} {c d : Addr} (h : [(y, c)].lookup z = some d) : z = y := by
  by_cases e : z = y
  · exact e
  · have e2 : (z == y) = false := by simpa using e
    simp [List.lookup, e2] at h
section
variable {P : Program} {w : World} {K : PySem.W.Frag} {mg : Str → Option Value} {base : Heap}
theorem ruleOk_table {H : Hp} {f c c' d : Addr} {g : List Int → Int} {j : Nat} {top : Int} (r : RuleAt H f c c' nfRule (.ref d)) (hd : H d = some (.dT (tabK (rowsOf j top) g))) : RuleOk P w K mg base H f g j top := fun H' s' => by
  obtain ⟨hf, hc', hc, n1, n2⟩ := r
  have hf := s' _ _ hf
  have hc' := s' _ _ hc'
  have hc := s' _ _ hc
  have hd := s' _ _ hd
  refine callAt_cell (F := nfRule c c') (y := "table") (ok_Rule f c c') hf hc' rfl (fun z d e => look1 e) hc n1 n2 (fun vs Q h => ?_)
  obtain ⟨b, r, rfl, hb, hbox, q⟩ := h
  refine ⟨d, b, rowsOf j top, g, r, rfl, rfl, ?_, ?_, mem_rows.mpr hbox, ?_⟩
  · rw [del_ne (ne_of hd hc (fun z => nomatch z))]
    exact hd
  · rw [del_ne (ne_of hb hc (fun z => nomatch z))]
    exact hb
  · show Q _ (upd (del H' c) c (CellO c _))
    rw [upd_del hc]
    exact q
theorem ruleOk_voice {H : Hp} {f c c' : Addr} {at_ j : Nat} {top : Int} (r : RuleAt H f c c' nfTold (.int at_)) (hat : at_ < j) : RuleOk P w K mg base H f (fun r => r.getD at_ 0) j top := fun H' s' => by
  obtain ⟨hf, hc', hc, n1, n2⟩ := r
  have hf := s' _ _ hf
  have hc' := s' _ _ hc'
  have hc := s' _ _ hc
  refine callAt_cell (F := nfTold c c') (y := "at") (ok_Told f c c') hf hc' rfl (fun z d e => look1 e) hc n1 n2 (fun vs Q h => ?_)
  obtain ⟨b, r, rfl, hb, hbox, q⟩ := h
  refine ⟨at_, b, r, rfl, rfl, ?_, by rw [hbox.1]; exact hat, ?_⟩
  · rw [del_ne (ne_of hb hc (fun z => nomatch z))]
    exact hb
  · show Q _ (upd (del H' c) c (CellO c _))
    rw [upd_del hc]
    exact q
/-! ### asked -/
def spAsk (P : Program) (w : World) (K : PySem.W.Frag) (mg : Str → Option Value) (base : Heap) : Sp := fun vs H Q _ => ∃ (f : Addr) (j : Nat) (top : Int) (which : Bool) (g : List Int → Int), vs = [.ref f, .int j, .int top, .bl which] ∧ 1 ≤ j ∧ j ≤ 1000 ∧ 0 ≤ top ∧ top ≤ 1000 ∧ RuleOk P w K mg base H f g j top ∧
  ∀ H' v, Same H H' → RepD H' (askD which g j top) v → Q v H'
/-- the suite of _law_asked -/
def tTold (C a : Addr) (cls : Value) (d : Option Addr) : TS := fun E σ H => ∃ (dd : Addr) (z : String), cls = .ref C ∧ d = some dd ∧ σ[5]? = some (some (.ref a)) ∧ H dd = some (.xd [("what", .str (Str.ofString z))]) ∧ ∀ H' v, Same H H' → RepD H' (.tup [.str "TooMany", .str z]) v → E.nx (σ.set 4 (some v)) H'
variable {fB fVB fT fAT fCF fFF fFL C fI pL : Addr} {dB dVB dT dAT dCF dFF dFL dI : FuncData}
theorem ok_Ask {f fV fN fE CA : Addr} {fd dV dN dE : FuncData} (F : Fun K "_law_asked" "_law_asked" sAsk f fd) (R : Prg K mg fB fVB fT fAT fCF fFF fFL dB dVB dT dAT dCF dFF dFL) (B : Blt mg) (T : ErrT K mg C fI dI) (L : LimT K w mg pL) (XT : XfC K C)
    (FV : Fun K "vote_fault" "vote_fault" sVF fV dV) (bV : Binds K dV ["rule", "judges", "top"] []) (gV : mg "vote_fault" = some (.ref fV)) (FN : Fun K "named_fault" "named_fault" sNF fN dN) (bN : Binds K dN ["rule", "judges", "top"] []) (gN : mg "named_fault" = some (.ref fN))
    (FE : Fun K "_law_fault" "_law_fault" sFault fE dE) (bE : Binds K dE ["error"] []) (gE : mg "_law_fault" = some (.ref fE)) (gA : mg "AlikeError" = some (.ref CA)) (te : PySem.W.exmOne K (.ref C) (.ref CA) = some true) :
    FnOk P w K mg base CX0 6 f fd ["rule", "judges", "top", "which"] (spAsk P w K mg base) := by
  have GV : FnOk P w K mg base (CX P w) 5 fV dV ["rule", "judges", "top"] (spSearch P w K mg base C progD) := ok_VF FV R B T L
  have GN : FnOk P w K mg base (CX P w) 5 fN dN ["rule", "judges", "top"] (spSearch P w K mg base C namedD) := ok_NF FN R B T L
  have GE : FnE P w K mg base 1 fE dE ["error"] (spFault C) := ok_Fault FE B T XT
  refine F.ok scAsk (fun vs H Q E h => ?_) (fun cdv A outer s H vs Q E hr h => ?_)
  · obtain ⟨f, j, top, which, g, rfl, _⟩ := h
    rfl
  · obtain ⟨fr, j, top, which, g, rfl, hj1, hj, h0, h1, hR, q⟩ := h
    refine ⟨_, pss_cons (ps_try_as (i := 5) (ts := tTold C) rfl rfl scAsk.nd rfl rfl ⟨rfl, by decide, .inl gA⟩ L2.takes0
        (fun W pn xe tk _ => pss_one (ps_set (i := 4) scAsk.nd rfl (.inl rfl) (pe_ifExp (pt_val (pv 3)) (pe_callS GV hr rfl gV FV.kp bV (fun σ => passAt tk σ) (pa_cons (pv 0) (pa_cons (pv 1) (pa_cons (pv 2) pa_nil)))) (pe_callS GN hr rfl gN FN.kp bN (fun σ => passAt tk σ) (pa_cons (pv 0) (pa_cons (pv 1) (pa_cons (pv 2) pa_nil)))))))
        (fun a oe cls d pn hz hf => PSs.imp (t' := tTold C a cls d) (pss_one (ps_set (i := 4) scAsk.nd rfl (.inl rfl) (pe_callE (p := (a, oe)) GE ⟨(hr.mono (show 1 ≤ 5 by decide)).dp, (hr.mono (show 1 ≤ 5 by decide)).un⟩ (List.mem_cons_self ..) rfl gE FE.kp bE (pa_cons (pv 5) pa_nil))))
          (fun E σ H ⟨dd, z, e1, e2, e3, hd, q⟩ => ⟨_, e3, dd, z, rfl, by rw [← e1, ← e2]; exact hz, hf, hd, q⟩)))
      (pss_one (ps_ret (pv 4))), ?_⟩
    have told : ∀ (z : Str) (E : XK), bnd j top = some z → (∀ (z' : String) H' d, bndS j top = some z' → Same H H' → H d = none → H' d = some (.xd [("what", .str (Str.ofString z'))]) → E (.ref C) (some d) H') → Told H C z E := fun z E hz k H' d s n e => by
      rw [bnd_eq] at hz
      cases hs : bndS j top with
      | none => rw [hs] at hz; cases hz
      | some z' =>
        rw [hs] at hz
        have ez : Str.ofString z' = z := Option.some.inj hz
        refine k z' H' d hs s n ?_
        rw [ez]
        exact e
    have free : bnd j top = none → bndS j top = none := fun hb => by
      rw [bnd_eq] at hb
      cases hs : bndS j top with
      | none => rfl
      | some z' => rw [hs] at hb; cases hb
    refine ⟨_, rfl, which, rfl, ?_⟩
    cases which with
    | true =>
      refine iteT ⟨.ref fr, rfl, .int j, rfl, .int top, rfl, fr, j, top, g, rfl, hj1, hj, h0, h1, hR, fun hb H' v s r => ⟨v, rfl, q H' v s ?_⟩, fun z hz => told z _ hz fun z' H' d hs s n e => ⟨true, te, fun _ a na => ⟨d, z', rfl, rfl, rfl, e, fun H2 v s2 r2 => ⟨v, rfl, q H2 v (s.trans s2) ?_⟩⟩, fun z => Bool.noConfusion z⟩⟩
      · unfold askD
        rw [free hb, if_pos rfl]
        exact r
      · unfold askD
        rw [hs]
        exact r2
    | false =>
      refine iteF ⟨.ref fr, rfl, .int j, rfl, .int top, rfl, fr, j, top, g, rfl, hj1, hj, h0, h1, hR, fun hb H' v s r => ⟨v, rfl, q H' v s ?_⟩, fun z hz => told z _ hz fun z' H' d hs s n e => ⟨true, te, fun _ a na => ⟨d, z', rfl, rfl, rfl, e, fun H2 v s2 r2 => ⟨v, rfl, q H2 v (s.trans s2) ?_⟩⟩, fun z => Bool.noConfusion z⟩⟩
      · unfold askD
        rw [free hb, if_neg (by decide)]
        exact r
      · unfold askD
        rw [hs]
        exact r2
end
end K17
namespace K17
open PySem PySem.Spec PyProof.Rows L2 KX M17 NdefX LamX
abbrev sBd : Stmt := topS 30
theorem scBd : FnScope ["s", "rows", "judges", "top", "due", "rule", "slow", "which", "told"] ["s"] (defScope sBd) := ⟨rfl, rfl, rfl, by decide +kernel, rfl, by decide +kernel, by decide +kernel⟩
/-! ### depth -/
theorem dep_row {n : Nat} {r : List Int} (h : r.length ≤ 1000) : depLe (n + 1) (rowD r) := by
  refine ⟨by rw [List.length_map]; exact h, fun i d e => ?_⟩
  rw [List.getElem?_map] at e
  cases e2 : r[i]? with
  | none => rw [e2] at e; cases e
  | some x =>
    rw [e2] at e
    cases Option.some.inj e
    cases n <;> exact trivial
theorem dep3 {n : Nat} {a b c : D} (ha : depLe n a) (hb : depLe n b) (hc : depLe n c) : depLe (n + 1) (.tup [a, b, c]) := by
  refine ⟨by show 3 ≤ 1000; decide, fun i d e => ?_⟩
  match i with
  | 0 => cases Option.some.inj e; exact ha
  | 1 => cases Option.some.inj e; exact hb
  | 2 => cases Option.some.inj e; exact hc
  | i + 3 => simp at e
theorem dep2 {n : Nat} {a b : D} (ha : depLe n a) (hb : depLe n b) : depLe (n + 1) (.tup [a, b]) := by
  refine ⟨by show 2 ≤ 1000; decide, fun i d e => ?_⟩
  match i with
  | 0 => cases Option.some.inj e; exact ha
  | 1 => cases Option.some.inj e; exact hb
  | i + 2 => simp at e
theorem dep_str {n : Nat} {z : String} : depLe n (.str z) := by cases n <;> exact trivial
theorem dep_int {n : Nat} {z : Int} : depLe n (.int z) := by cases n <;> exact trivial
theorem dep_non {n : Nat} : depLe n .non := by cases n <;> exact trivial
theorem dep_law {g : List Int → Int} {j : Nat} {top : Int} (hj : j ≤ 1000) : depLe 2 (lawD g j top) := by
  have wid : ∀ r ∈ rowsOf j top, r.length ≤ 1000 := fun r hr => by rw [(mem_rows.mp hr).1]; exact hj
  unfold lawD
  cases h1 : unan g j top with
  | some t => exact dep2 dep_str dep_int
  | none =>
    show depLe 2 (match lawFall g (rowsOf j top) with | some p => fallD (some p) | none => leapD (leap g (rowsOf j top) top))
    cases h2 : lawFall g (rowsOf j top) with
    | some p =>
      obtain ⟨s, t⟩ := p
      unfold lawFall at h2
      obtain ⟨a, ha, h3⟩ := List.exists_of_findSome?_eq_some h2
      obtain ⟨b, hb, h4⟩ := List.exists_of_findSome?_eq_some h3
      by_cases c : g b < g a ∧ leB a b = true
      · rw [if_pos c] at h4
        cases Option.some.inj h4
        exact dep3 dep_str (dep_row (wid _ ha)) (dep_row (wid _ hb))
      · rw [if_neg c] at h4
        cases h4
    | none =>
      show depLe 2 (leapD (leap g (rowsOf j top) top))
      cases h3 : leap g (rowsOf j top) top with
      | none => exact dep_non
      | some p =>
        obtain ⟨t, w⟩ := p
        unfold leap at h3
        obtain ⟨a, ha, h4⟩ := List.exists_of_findSome?_eq_some h3
        obtain ⟨b, hb, h5⟩ := List.exists_of_findSome?_eq_some h4
        by_cases c : g (addW a b) > g a + b
        · rw [if_pos c] at h5
          cases Option.some.inj h5
          exact dep3 dep_str (dep_row (wid _ ha)) dep_int
        · rw [if_neg c] at h5
          cases h5
theorem dep_named {g : List Int → Int} {j : Nat} {top : Int} (hj : j ≤ 1000) : depLe 2 (namedD g j top) := by
  unfold namedD
  cases h : (rowsOf j top).find? (outB g) with
  | none => exact dep_non
  | some r => exact dep_row (by rw [(mem_rows.mp (List.mem_of_find?_eq_some h)).1]; exact hj)
theorem ask_true {g : List Int → Int} {j : Nat} {top : Int} (h : bndS j top = none) : askD true g j top = lawD g j top := by
  unfold askD
  rw [h, if_pos rfl, prog_law]
theorem ask_false {g : List Int → Int} {j : Nat} {top : Int} (h : bndS j top = none) : askD false g j top = namedD g j top := by
  unfold askD
  rw [h, if_neg (by decide)]
/-! ### the rows of bounds -/
def dueV : Option String → V
  | none => .non
  | some z => .str (Str.ofString z)
abbrev BRow : Type := Nat × Int × Option String
def bRows : List BRow := [(1, 100, none), (1, 101, some "top"), (4, 0, some "judges"), (5, 101, some "top"), (4, 100, some "judges"), (2, 31, some "tables")]
def bRows2 : List BRow := [(3, 10, some "tables"), (2, 100, some "tables"), (3, 9, none), (2, 30, none), (3, 0, none)]
theorem bRows_ok : ∀ p ∈ bRows ++ bRows2, bndS p.1 p.2.1 = p.2.2 ∧ 1 ≤ p.1 ∧ p.1 ≤ 5 ∧ 0 ≤ p.2.1 ∧ p.2.1 ≤ 101 := by decide +kernel
def tupB (p : BRow) : List V := [.int p.1, .int p.2.1, dueV p.2.2]
def TupsAt (H : Hp) (as : List Addr) (ps : List BRow) : Prop := Paired (fun a p => H a = some (.tup (tupB p))) as ps
theorem TupsAt.same {H H' : Hp} {as : List Addr} {ps : List BRow} (h : TupsAt H as ps) (s : Same H H') : TupsAt H' as ps := by
  unfold TupsAt at h ⊢
  induction h with
  | nil => exact .nil
  | cons h _ ih => exact .cons (s _ _ h) ih
theorem TupsAt.mem {H : Hp} : ∀ {as : List Addr} {ps : List BRow}, TupsAt H as ps → ∀ c ∈ as, ∃ p ∈ ps, H c = some (.tup (tupB p))
  | _, _, .nil => fun c hc => absurd hc List.not_mem_nil
  | _, _, .cons h t => fun c hc => by
    rcases List.mem_cons.mp hc with e | hc
    · exact ⟨_, List.mem_cons_self .., by rw [e]; exact h⟩
    · obtain ⟨p, hp, e⟩ := TupsAt.mem t c hc
      exact ⟨p, List.mem_cons_of_mem _ hp, e⟩
def TTs (T : TA) (ps : List BRow) : Prop := ∀ (σ : L2.St) (H : Hp) (Q : List V → Hp → Prop), (∀ H' as, Same H H' → TupsAt H' as ps → Q (as.map V.ref) H') → T σ H Q
theorem tt_nil : TTs tNil [] := fun σ H Q h => h H [] (Same.refl H) .nil
theorem tt_cons {T : TA} {ps : List BRow} {j : Nat} {i t : Int} {v : V} {due : Option String} (hi : i = (j : Int)) (hv : v = dueV due) (h : TTs T ps) : TTs (tCons (tTup (tCons (tC (.int i)) (tCons (tC (.int t)) (tCons (tC v) tNil)))) T) ((j, t, due) :: ps) := by
  intro σ H Q q
  subst hi hv
  refine ⟨line3, fun p np => ?_⟩
  have sp := same_upd (o := .tup [.int j, .int t, dueV due]) np
  refine h σ _ _ fun H' as s ta => ?_
  exact q H' (p :: as) (sp.trans s) (.cons (s _ _ upd_same) ta)
def tRows (ps : List BRow) : TE := fun _ H Q => ∀ H' l as, Same H H' → H l = none → H' l = some (.lst (as.map V.ref)) → TupsAt H' as ps → Q (.ref l) H'
theorem tt_lst {T : TA} {ps : List BRow} (h : TTs T ps) (hl : ps.length ≤ 100) {σ : L2.St} {H : Hp} {Q : VK} (q : tRows ps σ H Q) : tLst T σ H Q := by
  refine h σ H _ fun H' as s ta => ⟨?_, fun l nl => ?_⟩
  · rw [List.length_map, Paired.length ta]
    exact line_le (by omega)
  · have sl := same_upd (o := .lst (as.map V.ref)) nl
    exact q _ l as (s.trans sl) (s.free nl) upd_same (ta.same sl)
/-! ### tables and cells stay -/
theorem tabs_kept {T : List NTab} {H H' : Hp} (t : TabsN T H) (h1 : ∀ b ps, H b = some (.tbl ps) → H' b = some (.tbl ps)) (h2 : ∀ b φ, H b = some (.ext φ) → H' b = some (.ext φ)) : TabsN T H' := fun p hp => by
  obtain ⟨ps, e, ok, k⟩ := t p hp
  refine ⟨ps, h1 _ _ e, ok, fun pos cv hc => ?_⟩
  obtain ⟨c, e2, e3⟩ := k pos cv hc
  exact ⟨c, e2, h2 _ _ e3⟩
theorem Src.tbl {H : Hp} {a b : Addr} {ps : Array Value} (s : Src H a) (e : H b = some (.tbl ps)) : b ≠ a := fun z => by
  obtain ⟨x0, x1, x2, x3, ea⟩ := s
  rw [z, ea] at e
  cases e
theorem Src.ext {H : Hp} {a b : Addr} {φ : Heap → Prop} (s : Src H a) (e : H b = some (.ext φ)) : b ≠ a := fun z => by
  obtain ⟨x0, x1, x2, x3, ea⟩ := s
  rw [z, ea] at e
  cases e
theorem tabs_exc {T : List NTab} {H H' : Hp} {a : Addr} (t : TabsN T H) (s : Src H a) (x : Exc [a] H H') : TabsN T H' :=
  tabs_kept t (fun b ps e => x b _ (fun z => s.tbl e (List.mem_singleton.mp z)) e) (fun b φ e => x b _ (fun z => s.ext e (List.mem_singleton.mp z)) e)
theorem RuleAt.same {H H' : Hp} {f c c' : Addr} {mk : Addr → Addr → NF} {v : V} (r : RuleAt H f c c' mk v) (s : Same H H') : RuleAt H' f c c' mk v := ⟨s _ _ r.1, s _ _ r.2.1, s _ _ r.2.2.1, r.2.2.2⟩
theorem RuleAt.exc {H H' : Hp} {a f c c' : Addr} {mk : Addr → Addr → NF} {v : V} (r : RuleAt H f c c' mk v) (s : Src H a) (x : Exc [a] H H') : RuleAt H' f c c' mk v :=
  ⟨x _ _ (fun z => s.ext r.1 (List.mem_singleton.mp z)) r.1, x _ _ (fun z => s.ext r.2.1 (List.mem_singleton.mp z)) r.2.1, x _ _ (fun z => s.ext r.2.2.1 (List.mem_singleton.mp z)) r.2.2.1, r.2.2.2⟩
theorem Src.extN {H H' : Hp} {a : Addr} (s : Src H a) (e : ExtN H H') : Src H' a := by
  obtain ⟨x0, x1, x2, x3, ea⟩ := s
  exact ⟨x0, x1, x2, x3, e _ _ ea fun ps z => nomatch z⟩
def dueD : Option String → D
  | some z => .tup [.str "TooMany", .str z]
  | none => .non
theorem ask_voice {which : Bool} {at_ j : Nat} {top : Int} {due : Option String} (h : bndS j top = due) (hat : at_ < j) : askD which (fun r => r.getD at_ 0) j top = dueD due := by
  unfold askD
  rw [h]
  cases due with
  | some z => rfl
  | none =>
    cases which with
    | true => exact voice_prog hat
    | false => exact voice_named hat
theorem dep_due {due : Option String} : depLe 2 (dueD due) := by
  cases due with
  | some z => exact dep2 dep_str dep_str
  | none => exact dep_non
def tSlow : TE := fun σ H Q => (∃ (a : Addr) (j top : Int) (v : V), σ[0]? = some (some (.ref a)) ∧ σ[2]? = some (some (.int j)) ∧ σ[3]? = some (some (.int top)) ∧ σ[4]? = some (some v) ∧ Src H a ∧ ∀ (b : Bool) H', Upto a H H' → Src H' a → Q (.bl b) H')
def tWhich : TE := fun σ H Q => (∃ b, σ[6]? = some (some (.bl b))) ∧ ∀ p (bs : List Bool), H p = none → Q (.ref p) (upd H p (.lst (bs.map V.bl)))
section
variable {P : Program} {w : World} {K : PySem.W.Frag} {mg : Str → Option Value} {base : Heap}
def spBd (P1 P2 : Addr) : Sp := fun vs H Q _ => ∃ a, vs = [.ref a] ∧ Src H a ∧ TabsN (tabsT P1 P2) H ∧ ∀ H', Q (.bl true) H'
/-- what the law's last defs call -/
structure Lst (P : Program) (w : World) (K : PySem.W.Frag) (mg : Str → Option Value) (base : Heap) (P1 P2 fP fO fK fS fV fR : Addr) (dP dO dK dS dV dR : FuncData) : Prop where
  GP : FnOk P w K mg base CX0 1 fP dP ["s", "many"] spPick
  kP : PySem.W.keepIn K (.ref fP) = true
  bP : Binds K dP ["s", "many"] []
  gP : mg "_law_pick" = some (.ref fP)
  GO : FnOk P w K mg base CX0 2 fO dO ["s", "things"] spOne
  kO : PySem.W.keepIn K (.ref fO) = true
  bO : Binds K dO ["s", "things"] []
  gO : mg "_law_one" = some (.ref fO)
  GK : FnOk P w K mg base CX0 6 fK dK ["rule", "judges", "top", "which"] (spAsk P w K mg base)
  kK : PySem.W.keepIn K (.ref fK) = true
  bK : Binds K dK ["rule", "judges", "top", "which"] []
  gK : mg "_law_asked" = some (.ref fK)
  GS : FnOk P w K mg base CX0 3 fS dS ["answer", "due"] (spSame 2)
  kS : PySem.W.keepIn K (.ref fS) = true
  bS : Binds K dS ["answer", "due"] []
  gS : mg "_law_same" = some (.ref fS)
  GV : FnOk P w K mg base CX0 1 fV dV ["at"] (spOut P1 P2 nfTold)
  kV : PySem.W.keepIn K (.ref fV) = true
  bV : Binds K dV ["at"] []
  gV : mg "_law_voice" = some (.ref fV)
  GR : FnOk P w K mg base CX0 1 fR dR ["table"] (spOut P1 P2 nfRule)
  kR : PySem.W.keepIn K (.ref fR) = true
  bR : Binds K dR ["table"] []
  gR : mg "_law_read" = some (.ref fR)
variable {P1 P2 fP fO fK fS fV fR : Addr} {dP dO dK dS dV dR : FuncData}
theorem ok_Bd {f : Addr} {fd : FuncData} (F : Fun K "_law_bounds" "_law_bounds" sBd f fd) (R : Lst P w K mg base P1 P2 fP fO fK fS fV fR dP dO dK dS dV dR) (B : Blt mg) : FnOk P w K mg base CX0 7 f fd ["s"] (spBd P1 P2) := by
  refine F.ok scBd (fun vs H Q E h => ?_) (fun cdv A outer s H vs Q E hr h => ?_)
  · obtain ⟨a, rfl, _⟩ := h
    rfl
  · obtain ⟨a, rfl, hs, hT, q⟩ := h
    have hr1 := hr.mono (show 1 ≤ 6 by decide)
    have hr2 := hr.mono (show 2 ≤ 6 by decide)
    have hr3 := hr.mono (show 3 ≤ 6 by decide)
    refine ⟨_, pss_cons (ps_set (i := 1) scBd.nd rfl (.inl rfl) (PE.imp (t' := tRows bRows) (pe_lst (pa_cons (pe_tup (pa_cons pe_int (pa_cons pe_int (pa_cons pe_non pa_nil)))) (pa_cons (pe_tup (pa_cons pe_int (pa_cons pe_int (pa_cons pe_str pa_nil)))) (pa_cons (pe_tup (pa_cons pe_int (pa_cons pe_int (pa_cons pe_str pa_nil))))
          (pa_cons (pe_tup (pa_cons pe_int (pa_cons pe_int (pa_cons pe_str pa_nil)))) (pa_cons (pe_tup (pa_cons pe_int (pa_cons pe_int (pa_cons pe_str pa_nil)))) (pa_cons (pe_tup (pa_cons pe_int (pa_cons pe_int (pa_cons pe_str pa_nil)))) pa_nil)))))))
          fun σ H Q h => tt_lst (tt_cons (j := 1) rfl rfl (tt_cons (j := 1) rfl rfl (tt_cons (j := 4) rfl rfl (tt_cons (j := 5) rfl rfl (tt_cons (j := 4) rfl rfl (tt_cons (j := 2) rfl rfl tt_nil)))))) (by decide) h))
      (pss_cons (ps_set (i := 1) scBd.nd rfl (.inl rfl) (pe_op op_cat (pv 1) (PE.imp (t' := tRows bRows2) (pe_lst (pa_cons (pe_tup (pa_cons pe_int (pa_cons pe_int (pa_cons pe_str pa_nil)))) (pa_cons (pe_tup (pa_cons pe_int (pa_cons pe_int (pa_cons pe_str pa_nil)))) (pa_cons (pe_tup (pa_cons pe_int (pa_cons pe_int (pa_cons pe_non pa_nil))))
          (pa_cons (pe_tup (pa_cons pe_int (pa_cons pe_int (pa_cons pe_non pa_nil)))) (pa_cons (pe_tup (pa_cons pe_int (pa_cons pe_int (pa_cons pe_non pa_nil)))) pa_nil))))))
          fun σ H Q h => tt_lst (tt_cons (j := 3) rfl rfl (tt_cons (j := 2) rfl rfl (tt_cons (j := 3) rfl rfl (tt_cons (j := 2) rfl rfl (tt_cons (j := 3) rfl rfl tt_nil))))) (by decide) h)))
      (pss_cons (ps_asg (pe_call R.GO hr2 (by rfl) R.gO R.kO R.bO .nil pass0 (pa_cons (pv 0) (pa_cons (pv 1) pa_nil))) (pg_tup rfl (pgs_cons (pg_name (i := 2) scBd.nd rfl (.inl rfl)) (pgs_cons (pg_name (i := 3) scBd.nd rfl (.inl rfl)) (pgs_cons (pg_name (i := 4) scBd.nd rfl (.inl rfl)) pgs_nil)))))
      (pss_cons (ps_set (i := 5) scBd.nd rfl (.inl rfl) (pe_call R.GV hr1 (by rfl) R.gV R.kV R.bV .nil pass0 (pa_cons (pe_call R.GP hr1 (by rfl) R.gP R.kP R.bP .nil pass0 (pa_cons (pv 0) (pa_cons (pv 2) pa_nil))) pa_nil)))
      (pss_cons (ps_set (i := 6) scBd.nd rfl (.inl rfl) (PE.imp (t' := tSlow) (pe_and (pe_cmpR op_isN (pv 4) pe_non (nomark _)) (pe_and (pe_cmpR op_gt (pv 2) pe_int (nomark _)) (pe_and (pe_cmpR op_gt (pv 3) pe_int (nomark _)) (pe_one (pe_cmpR op_gt (pe_call R.GP hr1 (by rfl) R.gP R.kP R.bP .nil pass0 (pa_cons (pv 0) (pa_cons pe_int pa_nil))) pe_int (nomark _))))))
          fun σ H Q ⟨a, j, top, v, e0, e2, e3, e4, hs, q⟩ => by
            refine ⟨v, e4, rfl, _, rfl, ite2 (fun _ => ?_) (fun _ => q _ _ (Upto.refl a H) hs)⟩
            refine ⟨_, e2, _, _, rfl, rfl, _, rfl, ite2 (fun _ => ?_) (fun _ => q _ _ (Upto.refl a H) hs)⟩
            refine ⟨_, e3, _, _, rfl, rfl, _, rfl, ite2 (fun _ => ?_) (fun _ => q _ _ (Upto.refl a H) hs)⟩
            exact ⟨_, e0, a, 8, rfl, hs, by decide, fun r H' _ _ _ u s => ⟨_, _, rfl, rfl, q _ _ u s⟩⟩))
      (pss_cons (ps_for PassesOwn.never rfl (pi_list (PE.imp (t' := tWhich) (pe_ifExp (pt_val (pv 6)) (pe_lst (pa_cons pe_bl pa_nil)) (pe_lst (pa_cons pe_bl (pa_cons pe_bl pa_nil))))
          fun σ H Q ⟨⟨b, e⟩, q⟩ => ⟨_, e, b, rfl, ite2 (fun _ => ⟨line1, fun p np => q p [_] np⟩) (fun _ => ⟨line2, fun p np => q p [_, _] np⟩)⟩)) (pg_name (i := 7) scBd.nd rfl (.inl rfl))
        (pss_cons (ps_set (i := 8) scBd.nd rfl (.inl rfl) (pe_call R.GK hr (by rfl) R.gK R.kK R.bK .nil pass0 (pa_cons (pv 5) (pa_cons (pv 2) (pa_cons (pv 3) (pa_cons (pv 7) pa_nil))))))
        (pss_one (ps_if (pt_not (pt_val (pe_call R.GS hr3 (by rfl) R.gS R.kS R.bS .nil pass0 (pa_cons (pv 8) (pa_cons (pe_ifExp (pt_cmpR op_isN (pv 4) pe_non (nomark _)) pe_non (pe_tup (pa_cons pe_str (pa_cons (pv 4) pa_nil)))) pa_nil))))) (pss_one (ps_ret pe_bl)) pss_nil))))
      (pss_one (ps_ret pe_bl))))))), ?_⟩
    refine fun H1 l1 as1 s1 nl1 el1 ta1 => ⟨.ref l1, rfl, fun H2 l2 as2 s2 nl2 el2 ta2 => ⟨l1, l2, _, _, rfl, rfl, s2 _ _ el1, el2, ?_, fun l3 nl3 => ?_⟩⟩
    · rw [List.length_map, List.length_map, Paired.length ta1, Paired.length ta2]
      exact line_le (by decide)
    · have s12 := (s1.trans s2).trans (same_upd (o := .lst (as1.map V.ref ++ as2.map V.ref)) nl3)
      have hs3 := hs.same s12
      have ta12 := (ta1.same s2).same (same_upd (o := .lst (as1.map V.ref ++ as2.map V.ref)) nl3)
      have ta22 := ta2.same (same_upd (o := .lst (as1.map V.ref ++ as2.map V.ref)) nl3)
      have len3 : (as1.map V.ref ++ as2.map V.ref).length = 11 := by
        rw [List.length_append, List.length_map, List.length_map, Paired.length ta1, Paired.length ta2]
        rfl
      refine ⟨.ref a, rfl, .ref l3, rfl, a, l3, _, rfl, hs3, upd_same, (hs.same (s1.trans s2)).ne nl3, by rw [len3]; decide, by rw [len3]; decide, fun x H4 hx u4 s4 => ?_⟩
      have hx2 : ∃ c p, x = V.ref c ∧ p ∈ bRows ++ bRows2 ∧ (upd H2 l3 (.lst (as1.map V.ref ++ as2.map V.ref))) c = some (.tup (tupB p)) := by
        rcases List.mem_append.mp hx with hx | hx
        · obtain ⟨c, hc, rfl⟩ := List.mem_map.mp hx
          obtain ⟨p, hp, e⟩ := ta12.mem c hc
          exact ⟨c, p, rfl, List.mem_append_left _ hp, e⟩
        · obtain ⟨c, hc, rfl⟩ := List.mem_map.mp hx
          obtain ⟨p, hp, e⟩ := ta22.mem c hc
          exact ⟨c, p, rfl, List.mem_append_right _ hp, e⟩
      obtain ⟨c, p, rfl, hp, ec⟩ := hx2
      obtain ⟨j, top, due⟩ := p
      obtain ⟨b1, b2, b3, b4, b5⟩ := bRows_ok _ hp
      have b1 : bndS j top = due := b1
      have b2 : 1 ≤ j := b2
      have b3 : j ≤ 5 := b3
      have b4 : 0 ≤ top := b4
      have b5 : top ≤ 101 := b5
      have ec4 : H4 c = some (.tup [.int j, .int top, dueV due]) := (u4 c (hs3.tup ec)).trans ec
      have hT4 : TabsN (tabsT P1 P2) H4 := tabs_exc (hT.ext s12) hs3 (.of_upto u4 (List.mem_cons_self ..))
      refine ⟨c, _, rfl, SqT.of ec4, rfl, _, _, rfl, _, _, rfl, _, _, rfl, rfl, ?_⟩
      refine ⟨.ref a, rfl, .int j, rfl, a, j, rfl, s4, by omega, fun r H5 r0 r1 r2 u5 s5 => ?_⟩
      have hat : r.toNat < j := by
        by_cases c1 : (j : Int) ≤ 1
        · have := r1 c1
          omega
        · have := r2 (by omega)
          omega
      have er : r = ((r.toNat : Nat) : Int) := by omega
      have hT5 := tabs_exc hT4 s4 (.of_upto u5 (List.mem_cons_self ..))
      refine ⟨.int r, rfl, hT5, fun H6 f c c' eN T6 nf nc ra => ?_⟩
      rw [er] at ra
      have s6 := s5.extN eN
      refine ⟨a, j, top, dueV due, rfl, rfl, rfl, rfl, s6, fun b H7 u7 s7 => ?_⟩
      have ra7 := ra.exc s6 (.of_upto u7 (List.mem_cons_self ..))
      refine ⟨⟨b, rfl⟩, fun lw bs nlw => ⟨lw, rfl, ⟨_, SqL.of upd_same⟩, ?_⟩⟩
      have sw := same_upd (o := .lst (bs.map V.bl)) nlw
      have elw : (upd H7 lw (.lst (bs.map V.bl))) lw = some (.lst (bs.map V.bl)) := upd_same
      refine f_list (xs := bs.map V.bl) (fun i σ H8 => ∃ y7 y8, σ = [some (.ref a), some (.ref l3), some (.int j), some (.int top), some (dueV due), some (.ref f), some (.bl b), y7, y8] ∧ Same (upd H7 lw (.lst (bs.map V.bl))) H8) ⟨none, none, rfl, Same.refl _⟩ (fun i σ H8 _ hp => ?_) (fun i x σ H8 hx hp => ?_) (fun σ H8 hp => ?_)
      · obtain ⟨_, _, _, s8⟩ := hp
        exact SqL.of (s8 _ _ elw)
      · obtain ⟨y7, y8, rfl, s8⟩ := hp
        have hx2 : ∃ which, x = V.bl which := by
          obtain ⟨y, _, e⟩ := List.mem_map.mp (List.mem_of_getElem? hx)
          exact ⟨y, e.symm⟩
        obtain ⟨which, rfl⟩ := hx2
        have ra8 := (ra7.same sw).same s8
        refine ⟨.ref f, rfl, .int j, rfl, .int top, rfl, .bl which, rfl, f, j, top, which, _, rfl, b2, by omega, b4, by omega, ruleOk_voice ra8 hat, fun H9 v s9 rv => ?_⟩
        rw [ask_voice b1 hat] at rv
        refine ⟨v, rfl, ?_⟩
        cases due with
        | none =>
          refine ⟨.non, rfl, rfl, _, rfl, iteT ⟨v, .non, dueD none, rfl, rv, .non, dep_due, fun H10 s10 => ⟨_, rfl, iteF ⟨_, _, rfl, (s8.trans s9).trans s10⟩⟩⟩⟩
        | some z =>
          refine ⟨.str (Str.ofString z), rfl, rfl, _, rfl, iteF ⟨.str (Str.ofString z), rfl, line2, fun p np => ?_⟩⟩
          have sp := same_upd (o := .tup [.str "TooMany", .str (Str.ofString z)]) np
          exact ⟨v, .ref p, dueD (some z), rfl, rv.same sp, rep2 upd_same (.str "TooMany") (.str z), dep_due, fun H10 s10 => ⟨_, rfl, iteF ⟨_, _, rfl, ((s8.trans s9).trans sp).trans s10⟩⟩⟩
      · exact q _
end
end K17
namespace K17
open PySem PySem.Spec PyProof.Rows L2 KX M17 NdefX LamX
abbrev sLaw : Stmt := topS 31
theorem scLaw : FnScope ["script", "s", "turn", "judges", "top", "table", "kept", "rule", "again", "row"] ["script"] (defScope sLaw) := ⟨rfl, rfl, rfl, by decide +kernel, rfl, by decide +kernel, by decide +kernel⟩
/-! ### the keys' hashes -/
def rowHash (r : List Int) : Int := reduceHash (Builtin.Tuple.tupleHashOf (r.map hashInt))
theorem rowHash_eq {P : Program} {w : World} (r : List Int) : (tupleKind (mixKind P w)).hash (kR r) = rowHash r := by
  show tupleKeyHash (mixKind P w) (kR r) = rowHash r
  unfold tupleKeyHash rowHash kR
  rw [List.map_map]
  rfl
def small : List (Nat × Int) := (List.range 13).map (fun (t : Nat) => (1, (t : Int))) ++ (List.range 5).map (fun (t : Nat) => (2, (t : Int))) ++ (List.range 4).map (fun (t : Nat) => (3, (t : Int)))
set_option maxHeartbeats 0 in
theorem hash_nodup : ∀ p ∈ small, ((rowsOf p.1 p.2).map rowHash).Nodup := by decide +kernel
theorem small_ok : ∀ p ∈ small, 1 ≤ p.1 ∧ p.1 < 64 ∧ 0 ≤ p.2 ∧ p.2 ≤ 900 ∧ (p.2 + 1).toNat ^ p.1 ≤ 1000 ∧ bndS p.1 p.2 = none := by decide +kernel
def manyT : List (Nat × Int) := [(1, 13), (2, 5), (3, 4)]
theorem small_mem {j : Nat} {m top : Int} (h : (j, m) ∈ manyT) (h0 : 0 ≤ top) (h1 : top < m) : (j, top) ∈ small := by
  have e : ((top.toNat : Nat) : Int) = top := by omega
  unfold small
  rcases List.mem_cons.mp h with z | h
  · cases z
    refine List.mem_append_left _ (List.mem_append_left _ (List.mem_map.mpr ⟨top.toNat, List.mem_range.mpr (by omega), by rw [e]⟩))
  · rcases List.mem_cons.mp h with z | h
    · cases z
      refine List.mem_append_left _ (List.mem_append_right _ (List.mem_map.mpr ⟨top.toNat, List.mem_range.mpr (by omega), by rw [e]⟩))
    · cases List.mem_singleton.mp h
      refine List.mem_append_right _ (List.mem_map.mpr ⟨top.toNat, List.mem_range.mpr (by omega), by rw [e]⟩)
theorem tab_hash {P : Program} {w : World} {j : Nat} {top : Int} {g : List Int → Int} (h : (j, top) ∈ small) : ((tabK (rowsOf j top) g).map fun x => (tupleKind (mixKind P w)).hash x.1).Nodup := by
  have e : ((tabK (rowsOf j top) g).map fun x => (tupleKind (mixKind P w)).hash x.1) = (rowsOf j top).map rowHash := by
    unfold tabK
    rw [List.map_map]
    refine List.map_congr_left fun r _ => ?_
    exact rowHash_eq r
  rw [e]
  exact hash_nodup _ h
theorem RuleAt.put {H : Hp} {f c c' d : Addr} {mk : Addr → Addr → NF} {v : V} {k : List (List Key × V)} {o : HO} (r : RuleAt H f c c' mk v) (hd : H d = some (.dT k)) : RuleAt (upd H d o) f c c' mk v := by
  obtain ⟨h1, h2, h3, h4⟩ := r
  refine ⟨?_, ?_, ?_, h4⟩
  · rw [upd_ne (ne_of h1 hd (fun z => nomatch z))]
    exact h1
  · rw [upd_ne (ne_of h2 hd (fun z => nomatch z))]
    exact h2
  · rw [upd_ne (ne_of h3 hd (fun z => nomatch z))]
    exact h3
theorem tabs_put {T : List NTab} {H : Hp} {d : Addr} {k : List (List Key × V)} {o : HO} (t : TabsN T H) (hd : H d = some (.dT k)) : TabsN T (upd H d o) :=
  tabs_kept t (fun b ps e => by rw [upd_ne (ne_of e hd (fun z => nomatch z))]; exact e) (fun b φ e => by rw [upd_ne (ne_of e hd (fun z => nomatch z))]; exact e)
theorem RuleAt.extN {H H' : Hp} {f c c' : Addr} {mk : Addr → Addr → NF} {v : V} (r : RuleAt H f c c' mk v) (s : ExtN H H') : RuleAt H' f c c' mk v := ⟨s _ _ r.1 (fun ps z => nomatch z), s _ _ r.2.1 (fun ps z => nomatch z), s _ _ r.2.2.1 (fun ps z => nomatch z), r.2.2.2⟩
def tMany : TE := fun σ H Q => ∃ (j : Nat) (m : Int), σ[3]? = some (some (.int j)) ∧ (j, m) ∈ manyT ∧ ∀ H', Same H H' → Q (.int m) H'
theorem many_get {j : Nat} {m : Int} (h : (j, m) ∈ manyT) : valV (mergeK [] [((Sum.inl 1 : Key), V.int 13), (Sum.inl 2, .int 5), (Sum.inl 3, .int 4)]) (Sum.inl (j : Int)) = some (.int m) := by
  rcases List.mem_cons.mp h with z | h
  · cases z; rfl
  · rcases List.mem_cons.mp h with z | h
    · cases z; rfl
    · cases List.mem_singleton.mp h; rfl
section
variable {P : Program} {w : World} {K : PySem.W.Frag} {mg : Str → Option Value} {base : Heap}
def spLaw (K : PySem.W.Frag) (P1 P2 : Addr) : Sp := fun vs H Q _ => ∃ (a : Addr) (ns : List Int), vs = [.ref a] ∧ SqL K H a (ns.map V.int) ∧ ns.length ≤ 63 ∧ TabsN (tabsT P1 P2) H ∧ ∀ H', Q (.bl true) H'
structure Lst2 (P : Program) (w : World) (K : PySem.W.Frag) (mg : Str → Option Value) (base : Heap) (P1 P2 fC fT fD fX fB : Addr) (dC dT dD dX dB : FuncData) : Prop where
  GC : FnOk P w K mg base CX0 1 fC dC ["script", "at"] (spSrc K)
  kC : PySem.W.keepIn K (.ref fC) = true
  bC : Binds K dC ["script", "at"] []
  gC : mg "_law_source" = some (.ref fC)
  GT : FnOk P w K mg base CX0 3 fT dT ["s", "judges", "top"] spTab
  kT : PySem.W.keepIn K (.ref fT) = true
  bT : Binds K dT ["s", "judges", "top"] []
  gT : mg "_law_table" = some (.ref fT)
  GD : FnOk P w K mg base CX0 2 fD dD ["table", "judges", "top"] (spAns lawD)
  kD : PySem.W.keepIn K (.ref fD) = true
  bD : Binds K dD ["table", "judges", "top"] []
  gD : mg "_law_due" = some (.ref fD)
  GX : FnOk P w K mg base CX0 2 fX dX ["table", "judges", "top"] (spAns namedD)
  kX : PySem.W.keepIn K (.ref fX) = true
  bX : Binds K dX ["table", "judges", "top"] []
  gX : mg "_law_outside" = some (.ref fX)
  GB : FnOk P w K mg base CX0 7 fB dB ["s"] (spBd P1 P2)
  kB : PySem.W.keepIn K (.ref fB) = true
  bB : Binds K dB ["s"] []
  gB : mg "_law_bounds" = some (.ref fB)
variable {P1 P2 fP fO fK fS fV fR fC fT fD fX fB : Addr} {dP dO dK dS dV dR dC dT dD dX dB : FuncData}
theorem ok_Law {f : Addr} {fd : FuncData} (F : Fun K "law" "law" sLaw f fd) (R : Lst P w K mg base P1 P2 fP fO fK fS fV fR dP dO dK dS dV dR) (S : Lst2 P w K mg base P1 P2 fC fT fD fX fB dC dT dD dX dB) (B : Blt mg) : FnOk P w K mg base CX0 8 f fd ["script"] (spLaw K P1 P2) := by
  refine F.ok scLaw (fun vs H Q E h => ?_) (fun cdv A outer s H vs Q E hr h => ?_)
  · obtain ⟨a, ns, rfl, _⟩ := h
    rfl
  · obtain ⟨scr, ns, rfl, hscr, hlen, hT, q⟩ := h
    have hu := hu_of hr
    have hr1 := hr.mono (show 1 ≤ 7 by decide)
    have hr2 := hr.mono (show 2 ≤ 7 by decide)
    have hr3 := hr.mono (show 3 ≤ 7 by decide)
    have hr6 := hr.mono (show 6 ≤ 7 by decide)
    have hu5 : (A.deeper (envOfC "law" (defScope sLaw) s.heap.objs.size f cdv)).units + 5 < cLine := Nat.lt_of_le_of_lt (Nat.add_le_add_left (by decide : 5 ≤ 64) _) hr.units
    refine ⟨_, pss_cons (ps_set (i := 1) scLaw.nd rfl (.inl rfl) (pe_call S.GC hr1 (by rfl) S.gC S.kC S.bC .nil pass0 (pa_cons (pv 0) (pa_cons pe_int pa_nil))))
      (pss_cons (ps_for PassesOwn.never rfl (pi_range1 rfl B.range (pa_cons pe_int pa_nil)) (pg_name (i := 2) scLaw.nd rfl (.inl rfl))
        (pss_cons (ps_set (i := 3) scLaw.nd rfl (.inl rfl) (pe_call R.GO hr2 (by rfl) R.gO R.kO R.bO .nil pass0 (pa_cons (pv 1) (pa_cons (pe_lst (pa_cons pe_int (pa_cons pe_int (pa_cons pe_int (pa_cons pe_int pa_nil))))) pa_nil))))
        (pss_cons (ps_set (i := 4) scLaw.nd rfl (.inl rfl) (pe_call R.GP hr1 (by rfl) R.gP R.kP R.bP .nil pass0 (pa_cons (pv 1) (pa_cons (PE.imp (t' := tMany) (pe_dget hu (pe_disp (pps_cons pe_int pe_int (pps_cons pe_int pe_int (pps_cons pe_int pe_int pps_nil))) (by rfl) (by rfl) (fun z => by cases z) (by decide)) (pv 3) (fun _ _ => rfl))
            fun σ H Q ⟨j, m, e3, hm, q⟩ => fun p np => ⟨upd_same, [((Sum.inl 1 : Key), V.int 13), (Sum.inl 2, .int 5), (Sum.inl 3, .int 4)], rfl, by decide, .int j, e3, p, .int m, rfl, by
              have z := DGet.k (k := Sum.inl (j : Int)) (H := upd (upd H p (.dK [])) p (.dK (mergeK [] [((Sum.inl 1 : Key), V.int 13), (Sum.inl 2, .int 5), (Sum.inl 3, .int 4)]))) (a := p) upd_same
              rw [many_get hm] at z
              exact z, q _ (fun b o e => by rw [upd_ne (ne_of_none e np), upd_ne (ne_of_none e np)]; exact e)⟩) pa_nil))))
        (pss_cons (ps_set (i := 5) scLaw.nd rfl (.inl rfl) (pe_call S.GT hr3 (by rfl) S.gT S.kT S.bT .nil pass0 (pa_cons (pv 1) (pa_cons (pv 3) (pa_cons (pv 4) pa_nil)))))
        (pss_cons (ps_set (i := 6) scLaw.nd rfl (.inl rfl) (pe_callTy (call_dict_dT hu5) (by rfl) B.dict (by decide +kernel) (pa_cons (pv 5) pa_nil)))
        (pss_cons (ps_set (i := 7) scLaw.nd rfl (.inl rfl) (pe_call R.GR hr1 (by rfl) R.gR R.kR R.bR .nil pass0 (pa_cons (pv 5) pa_nil)))
        (pss_one (ps_for PassesOwn.never rfl (pi_range1 rfl B.range (pa_cons pe_int pa_nil)) (pg_name (i := 8) scLaw.nd rfl (.inl rfl))
          (pss_cons (ps_if (pt_not (pt_val (pe_call R.GS hr3 (by rfl) R.gS R.kS R.bS .nil pass0 (pa_cons (pe_call R.GK hr6 (by rfl) R.gK R.kK R.bK .nil pass0 (pa_cons (pv 7) (pa_cons (pv 3) (pa_cons (pv 4) (pa_cons pe_bl pa_nil))))) (pa_cons (pe_call S.GD hr2 (by rfl) S.gD S.kD S.bD .nil pass0 (pa_cons (pv 6) (pa_cons (pv 3) (pa_cons (pv 4) pa_nil)))) pa_nil))))) (pss_one (ps_ret pe_bl)) pss_nil)
          (pss_cons (ps_if (pt_not (pt_val (pe_call R.GS hr3 (by rfl) R.gS R.kS R.bS .nil pass0 (pa_cons (pe_call R.GK hr6 (by rfl) R.gK R.kK R.bK .nil pass0 (pa_cons (pv 7) (pa_cons (pv 3) (pa_cons (pv 4) (pa_cons pe_bl pa_nil))))) (pa_cons (pe_call S.GX hr2 (by rfl) S.gX S.kX S.bX .nil pass0 (pa_cons (pv 6) (pa_cons (pv 3) (pa_cons (pv 4) pa_nil)))) pa_nil))))) (pss_one (ps_ret pe_bl)) pss_nil)
          (pss_cons (ps_set (i := 9) scLaw.nd rfl (.inl rfl) (pe_call R.GO hr2 (by rfl) R.gO R.kO R.bO .nil pass0 (pa_cons (pv 1) (pa_cons (pe_callTy (call_list_dT rfl) (by rfl) B.list (by decide +kernel) (pa_cons (pv 5) pa_nil)) pa_nil))))
          (pss_cons (ps_dput hu (pv 5) (pv 9) (pe_ix ix_tup (pv 9) (pe_call R.GP hr1 (by rfl) R.gP R.kP R.bP .nil pass0 (pa_cons (pv 1) (pa_cons (pv 3) pa_nil))) (fun _ _ => rfl)) rfl)
          (pss_one (ps_dput hu (pv 6) (pv 9) (pe_dget hu (pv 5) (pv 9) (fun _ _ => rfl)) rfl))))))))))))))
      (pss_one (ps_ret (pe_ifExp (pt_cmpR op_eq (pe_call R.GP hr1 (by rfl) R.gP R.kP R.bP .nil pass0 (pa_cons (pv 1) (pa_cons pe_int pa_nil))) pe_int (nomark _)) (pe_call S.GB hr (by rfl) S.gB S.kB S.bB .nil pass0 (pa_cons (pv 1) pa_nil)) pe_bl)))), ?_⟩
    refine ⟨.ref scr, rfl, scr, ns, rfl, hscr, hlen, fun H1 a s1 na hs1 => ?_⟩
    refine ⟨3, rfl, by decide, by decide, f_rng (lo := 0) (fun i σ H2 => ∃ y2 y3 y4 y5 y6 y7 y8 y9, σ = [some (.ref scr), some (.ref a), y2, y3, y4, y5, y6, y7, y8, y9] ∧ Src H2 a ∧ TabsN (tabsT P1 P2) H2) ⟨none, none, none, none, none, none, none, none, rfl, hs1, hT.ext s1⟩ (fun i σ H2 hi hp => ?_) (fun σ H2 hp => ?_)⟩
    · obtain ⟨y2, y3, y4, y5, y6, y7, y8, y9, rfl, hs, hT⟩ := hp
      -- judges
      refine ⟨.ref a, rfl, line_le (Nat.le_of_ble_eq_true rfl), fun l nl => ?_⟩
      have sl := same_upd (o := .lst [V.int 1, .int 2, .int 2, .int 3]) nl
      have hsl := hs.same sl
      refine ⟨a, l, _, rfl, hsl, upd_same, hs.ne nl, by show 0 < 4; decide, by show 4 ≤ 1000; decide, fun x H3 hx u3 s3 => ?_⟩
      have hx2 : ∃ (j : Nat) (m : Int), x = V.int j ∧ (j, m) ∈ manyT := by
        have hx3 : x ∈ [(1 : Nat), 2, 2, 3].map fun (n : Nat) => V.int (n : Int) := hx
        obtain ⟨n, hn, e⟩ := List.mem_map.mp hx3
        have hn2 : n = 1 ∨ n = 2 ∨ n = 3 := by
          simp at hn
          omega
        rcases hn2 with z | z | z
        · exact ⟨n, 13, e.symm, by rw [z]; decide⟩
        · exact ⟨n, 5, e.symm, by rw [z]; decide⟩
        · exact ⟨n, 4, e.symm, by rw [z]; decide⟩
      obtain ⟨j, m, rfl, hm⟩ := hx2
      have hT3 := tabs_exc (hT.ext sl) hsl (.of_upto u3 (List.mem_cons_self ..))
      have hmm : 1 < m ∧ m ≤ 13 := by
        rcases List.mem_cons.mp hm with z | z
        · cases z; decide
        · rcases List.mem_cons.mp z with z | z
          · cases z; decide
          · cases List.mem_singleton.mp z; decide
      -- top
      refine ⟨.ref a, rfl, j, m, rfl, hm, fun H4 s4 => ⟨a, m, rfl, s3.same s4, by omega, fun top H5 t0 _ t1 u5 s5 => ?_⟩⟩
      have hT5 := tabs_exc (hT3.ext s4) (s3.same s4) (.of_upto u5 (List.mem_cons_self ..))
      have hsm := small_mem hm t0 (t1 hmm.1)
      obtain ⟨b1, b2, b3, b4, b5, b6⟩ := small_ok _ hsm
      have b1 : 1 ≤ j := b1
      have b2 : j < 64 := b2
      have b4 : top ≤ 900 := b4
      have b5 : (top + 1).toNat ^ j ≤ 1000 := b5
      have b6 : bndS j top = none := b6
      have bx : Box j top := ⟨b1, b2, t0, b4, b5⟩
      -- table
      refine ⟨.ref a, rfl, .int j, rfl, .int top, rfl, a, j, top, rfl, bx, s5, fun H6 d g ex6 s6 nd hd => ?_⟩
      have hT6 := tabs_exc hT5 s5 ex6
      -- kept
      refine ⟨.ref d, rfl, d, _, rfl, .inl hd, tab_hash hsm, fun kp nk => ?_⟩
      have sk := same_upd (o := .dT (tabK (rowsOf j top) g)) nk
      have dk : d ≠ kp := fun z => by rw [z, nk] at hd; cases hd
      -- rule
      refine ⟨.ref d, rfl, .ref d, rfl, hT6.ext sk, fun H8 f c c' eN hT8 nf nc ra => ?_⟩
      have s8 := (s6.same sk).extN eN
      have hd8 : H8 d = some (.dT (tabK (rowsOf j top) g)) := eN _ _ (sk _ _ hd) (fun ps z => nomatch z)
      have hk8 : H8 kp = some (.dT (tabK (rowsOf j top) g)) := eN _ _ upd_same (fun ps z => nomatch z)
      refine ⟨2, rfl, by decide, by decide, f_rng (lo := 0) (fun n σ H9 => ∃ y8 y9 g, σ = [some (.ref scr), some (.ref a), some (.int (0 + (i : Int))), some (.int j), some (.int top), some (.ref d), some (.ref kp), some (.ref f), y8, y9] ∧ Src H9 a ∧ TabsN (tabsT P1 P2) H9 ∧ RuleAt H9 f c c' nfRule (.ref d) ∧ H9 d = some (.dT (tabK (rowsOf j top) g)) ∧ H9 kp = some (.dT (tabK (rowsOf j top) g)))
        ⟨y8, y9, g, rfl, s8, hT8, ra, hd8, hk8⟩ (fun n σ H9 hn hp => ?_) (fun σ H9 hp => ?_)⟩
      · obtain ⟨y8, y9, g, rfl, s9, hT9, ra9, hd9, hk9⟩ := hp
        -- the first fault
        refine ⟨.ref f, rfl, .int j, rfl, .int top, rfl, f, j, top, true, g, rfl, b1, by omega, t0, by omega, ruleOk_table ra9 hd9, fun HA v sA rv => ?_⟩
        rw [ask_true b6] at rv
        refine ⟨.ref kp, rfl, .int j, rfl, .int top, rfl, kp, j, top, g, rfl, sA _ _ hk9, b1, by omega, t0, by omega, b5, fun HB v2 sB rv2 => ⟨v, v2, lawD g j top, rfl, rv.same sB, rv2, dep_law (by omega), fun HC sC => ⟨_, rfl, iteF ?_⟩⟩⟩
        have s9C := (sA.trans sB).trans sC
        -- the one named
        refine ⟨.ref f, rfl, .int j, rfl, .int top, rfl, f, j, top, false, g, rfl, b1, by omega, t0, by omega, ruleOk_table (ra9.same s9C) (s9C _ _ hd9), fun HD w1 sD rw1 => ?_⟩
        rw [ask_false b6] at rw1
        refine ⟨.ref kp, rfl, .int j, rfl, .int top, rfl, kp, j, top, g, rfl, sD _ _ (s9C _ _ hk9), b1, by omega, t0, by omega, b5, fun HE w2 sE rw2 => ⟨w1, w2, namedD g j top, rfl, rw1.same sE, rw2, dep_named (by omega), fun HF sF => ⟨_, rfl, iteF ?_⟩⟩⟩
        have s9F := ((s9C.trans sD).trans sE).trans sF
        have sF' := s9.same s9F
        have hTF := hT9.ext s9F
        have raF := ra9.same s9F
        have hdF := s9F _ _ hd9
        have hkF := s9F _ _ hk9
        -- row
        refine ⟨.ref a, rfl, .ref d, rfl, d, _, rfl, .inl hdF, fun p bs np ks => ?_⟩
        have sp := same_upd (o := .lst (bs.map V.ref)) np
        have blen : bs.length = (rowsOf j top).length := by
          rw [← tab_len (rowsOf j top) g]
          exact (Paired.length ks).symm
        have sFp := sF'.same sp
        refine ⟨a, p, _, rfl, sFp, upd_same, sF'.ne np, by rw [List.length_map, blen]; exact bx.pos, by rw [List.length_map, blen]; exact bx.len, fun y HG hy uG sG => ?_⟩
        obtain ⟨e, he, rfl⟩ := List.mem_map.mp hy
        obtain ⟨r, hrr, ee⟩ := keys_row ks he
        have xG : Exc [a] _ HG := .of_upto uG (List.mem_cons_self ..)
        have eeG := xG.tup1 sFp (sp _ _ ee)
        have hdG := xG.dT1 sFp (sp _ _ hdF)
        have hkG := xG.dT1 sFp (sp _ _ hkF)
        have raG := (raF.same sp).exc sFp xG
        have hTG := tabs_exc (hTF.ext sp) sFp xG
        -- table[row] = row[..]
        refine ⟨.ref e, rfl, .ref a, rfl, .int j, rfl, a, j, rfl, sG, by omega, fun x HI x0 x1 x2 uI sI => ?_⟩
        have rl := (mem_rows.mp hrr).1
        have hx : x.toNat < r.length := by
          by_cases c1 : (j : Int) ≤ 1
          · have := x1 c1
            omega
          · have := x2 (by omega)
            omega
        have ex : ((x.toNat : Nat) : Int) = x := by omega
        have xI : Exc [a] HG HI := .of_upto uI (List.mem_cons_self ..)
        have eeI := xI.tup1 sG eeG
        have hdI := xI.dT1 sG hdG
        have hkI := xI.dT1 sG hkG
        have raI := raG.exc sG xI
        have hTI := tabs_exc hTG sG xI
        have at1 := atI_nat (get_int hx)
        rw [ex] at at1
        generalize r.getD x.toNat 0 = val at at1
        have bl := bx.len
        refine ⟨e, _, x, .int val, rfl, rfl, SqT.of eeI, at1, .ref d, rfl, .ref e, rfl, d, _, rfl, DPut.t hdI (by rw [kR_V]; exact eeI) (line_lt (by rw [tab_len]; omega)), ?_⟩
        rw [put_tab hrr]
        have eeJ : (upd HI d (.dT (tabK (rowsOf j top) (setG g r val)))) e = some (.tup (r.map V.int)) := by
          rw [upd_ne (ne_of eeI hdI (fun z => nomatch z))]
          exact eeI
        have hkJ : (upd HI d (.dT (tabK (rowsOf j top) (setG g r val)))) kp = some (.dT (tabK (rowsOf j top) g)) := by
          rw [upd_ne (Ne.symm dk)]
          exact hkI
        have gv : setG g r val r = val := if_pos rfl
        have dg := dget (H := upd HI d (.dT (tabK (rowsOf j top) (setG g r val)))) (.inl upd_same) eeJ hrr
        rw [gv] at dg
        have sJ : Src (upd HI d (.dT (tabK (rowsOf j top) (setG g r val)))) a := sI.put (Ne.symm (sI.dT hdI))
        have raJ : RuleAt (upd HI d (.dT (tabK (rowsOf j top) (setG g r val)))) f c c' nfRule (.ref d) := raI.put hdI
        have hTJ : TabsN (tabsT P1 P2) (upd HI d (.dT (tabK (rowsOf j top) (setG g r val)))) := tabs_put hTI hdI
        have hdJ : (upd HI d (.dT (tabK (rowsOf j top) (setG g r val)))) d = some (.dT (tabK (rowsOf j top) (setG g r val))) := upd_same
        -- kept[row] = table[row]
        refine ⟨.ref d, rfl, .ref e, rfl, d, .int val, rfl, dg, .ref kp, rfl, .ref e, rfl, kp, _, rfl, DPut.t hkJ (by rw [kR_V]; exact eeJ) (line_lt (by rw [tab_len]; omega)), ?_⟩
        rw [put_tab hrr]
        refine ⟨_, _, setG g r val, rfl, sJ.put (Ne.symm (sJ.dT hkJ)), tabs_put hTJ hkJ, raJ.put hkJ, ?_, upd_same⟩
        rw [upd_ne dk]
        exact hdJ
      · obtain ⟨y8, y9, g, rfl, s9, hT9, _⟩ := hp
        exact ⟨_, _, _, _, _, _, _, _, rfl, s9, hT9⟩
    · obtain ⟨y2, y3, y4, y5, y6, y7, y8, y9, rfl, hs, hT⟩ := hp
      refine ⟨.ref a, rfl, a, 4, rfl, hs, by decide, fun x H3 _ _ _ u3 s3 => ⟨rfl, _, rfl, ite2 (fun _ => ?_) (fun _ => q _)⟩⟩
      exact ⟨.ref a, rfl, a, rfl, s3, tabs_exc hT hs (.of_upto u3 (List.mem_cons_self ..)), fun H' => q H'⟩
end
end K17
namespace K17
open PySem PySem.Spec PyProof.Rows L2 KX M17 NdefX LamX
/-! ### the head: what the top leaves, told by names -/
theorem fun_of {K : PySem.W.Frag} {x q : Str} {st : Stmt} {f : Addr} {fd : FuncData} (F : FunD K x q (defArgs st) (defBody st) (defScope st) [] [] f fd) : Fun K x q st f fd := by
  obtain ⟨oc, od, dV, kV, doc, pm, an, cdv, ct, osl, rfl, lk, hcd, hD, hK⟩ := F.ex
  rcases hD with ⟨_, rfl⟩ | ⟨e, _⟩
  · exact ⟨⟨oc, od, kV, doc, pm, an, cdv, ct, osl, rfl, lk, hcd⟩, F.kp⟩
  · exact absurd rfl e
def dOf (x : Str) (st : Stmt) : He.DefD := ⟨(x, none), x, x, defArgs st, defBody st, defScope st, [], []⟩
def dInit : He.DefD := ⟨("TooMany", some "__init__"), "__init__", "TooMany.__init__", defArgs sInit, defBody sInit, defScope sInit, [], []⟩
def fn : List He.DefD := [dInit, dOf "bound_check" sBound, dOf "vote_bounds" sVB, dOf "tuples_from" sTF, dOf "asked_tuples" sAT, dOf "can_fall" sCF, dOf "first_fall" sFF, dOf "first_leap" sFL, dOf "vote_fault" sVF, dOf "named_fault" sNF,
  dOf "_law_source" sSrc, dOf "_law_pick" sPick, dOf "_law_one" sOne, dOf "_law_same" sSame, dOf "_law_fault" sFault, dOf "_law_tuples" sLT, dOf "_law_below" sLB, dOf "_law_due" sLD, dOf "_law_outside" sLO, dOf "_law_answer" sLA,
  dOf "_law_table" sTab, dOf "_law_asked" sAsk, dOf "_law_read" sRead, dOf "_law_voice" sVoice, dOf "_law_bounds" sBd, dOf "law" sLaw]
def gloN : List Str := ["AlikeError", "TooMany", "LIMITS", "bound_check", "vote_bounds", "tuples_from", "asked_tuples", "can_fall", "first_fall", "first_leap", "vote_fault", "named_fault", "_law_source", "_law_pick", "_law_one", "_law_same", "_law_fault", "_law_tuples", "_law_below", "_law_due", "_law_outside", "_law_answer", "_law_table", "_law_asked", "_law_read", "_law_voice", "_law_bounds", "law"]
def freeN : List Str := ["range", "len", "max", "min", "tuple", "sum", "sorted", "all", "isinstance", "str", "int", "bool", "dict", "list"]
def fa : List He.Fa := gloN.map .glo ++ freeN.map .free
def ts : List He.Tab := [(fun K => He.ga K "LIMITS", ["facts", "nevers", "questions", "makers", "powers", "clauses", "bills", "deeds", "names", "stages", "size", "letters", "rows", "top", "judges", "tables", "files"])]
def tf : List He.Defn := [("_law_read", none), ("_law_voice", none)]
/-- an own exception class, its object as the rule for its making wants it -/
def oexB (K : PySem.W.Frag) (C : Addr) : Bool :=
  match K.lookup C with
  | some ⟨.type "type", _, .cls cd, sl⟩ =>
    (match cd.mro, sl.toList with
    | .ref C2 :: bm, [_, _, _, _, some (.builtin nw), _] => (C2 == C && nw == "ValueError.__new__") && (!cd.hasDel && (cd.hasDict && PySem.HandSPX.refsVE bm))
    | _, _ => false)
  | _ => false
theorem oexB_ok {K : PySem.W.Frag} {C : Addr} (h : oexB K C = true) : ∃ nm q N bs bm sn sub ab col dd k0 k1 k2 k3 k5, K.lookup C = some (excClassObj nm q C N bs bm true sn sub ab col dd k0 k1 k2 k3 k5 "ValueError.__new__") ∧ PySem.HandSPX.refsVE bm = true := by
  unfold oexB at h
  split at h
  · rename_i dd cd sl hlk
    split at h
    · rename_i C2 bm k0 k1 k2 k3 nw k5 hmro hsl0
      obtain ⟨h1, h2⟩ := He.ba h
      obtain ⟨h3, h4⟩ := He.ba h1
      obtain ⟨h5, h6⟩ := He.ba h2
      obtain ⟨h7, h8⟩ := He.ba h6
      have e1 := beq_iff_eq.mp h3
      have e2 := beq_iff_eq.mp h4
      subst e1 e2
      obtain ⟨nm, bs, mro, ns, qn, hdt, sn, sub, ab, col, del⟩ := cd
      have h5 : del = false := by simpa using h5
      have h7 : hdt = true := h7
      have hmro : mro = .ref C2 :: bm := hmro
      subst h5 h7 hmro
      obtain ⟨l⟩ := sl
      have e3 : l = [k0, k1, k2, k3, some (.builtin "ValueError.__new__"), k5] := hsl0
      subst e3
      exact ⟨nm, qn, ns, bs, bm, sn, sub, ab, col, dd, k0, k1, k2, k3, k5, hlk, h8⟩
    · cases h
  · cases h
abbrev cC (K : PySem.W.Frag) : Addr := He.ga K "TooMany"
abbrev cI (K : PySem.W.Frag) : Addr := He.ma K (cC K) "__init__"
def exB (K : PySem.W.Frag) : List Bool :=
  [oexB K (cC K), decide (PySem.W.findIn K (.ref (cC K)) "__setattr__" = some (some (.builtin "object.__setattr__"))), decide (PySem.W.subIn K (.ref (cC K)) (.type "BaseException") = some true), decide (PySem.W.typeIn K (.ref (cC K)) = some (.type "type")), PySem.W.keepIn K (.ref (cC K)),
   decide (PySem.W.findIn K (.ref (cC K)) "__init__" = some (some (.ref (cI K)))), decide (PySem.W.typeIn K (.ref (cI K)) = some (.type "function")), decide (PySem.W.findIn K (.ref (cC K)) "what" = some none), xfB K (cC K), decide (PySem.W.exmOne K (.ref (cC K)) (.ref (He.ga K "AlikeError")) = some true),
   He.valsB K (He.ga K "LIMITS") [("top", .int 100), ("judges", .int 3), ("tables", .int 1000)], decide ((He.cT K ("_law_read", none)).2 ≠ (He.cT K ("_law_voice", none)).2)]
def ex (K : PySem.W.Frag) : Bool := (exB K).all id
abbrev ROW : PySem.W.OpenRow := PySem.W.OpenLaw.row PySem.Challenge.rw_treatalike_k17_every_vote_rule_by_digits
abbrev hk : PySem.W.Hook := He.hookX 6 fa fn ts tf ex
def ob (s : PySem.W.SharedT) : He.AlX := He.obsX 6 fa fn ts tf ex (HandSHeadRun.getT s)
theorem ob_eq (s : PySem.W.SharedT) : ob s = hk.obs s.abs := He.obsX_eq (HandSHeadRun.getT_eq s)
def loose : List Str := ["AlikeError", "TooMany", "LIMITS", "bound_check", "vote_bounds", "tuples_from", "asked_tuples", "can_fall", "first_fall", "first_leap", "vote_fault", "named_fault", "_law_source", "_law_pick", "_law_one", "_law_same", "_law_fault", "_law_tuples", "_law_below", "_law_due", "_law_outside", "_law_answer", "_law_table", "_law_asked", "_law_read", "_law_voice", "_law_bounds"]
set_option maxHeartbeats 0 in
theorem run (w : World) : HandSHeadRun.RunEq ROW (PySem.W.view ROW.prog [31]) hk ob 4000 loose w :=
  PySem.W.byRow2 "special-get-raises" (P := fun w => HandSHeadRun.RunEq ROW (PySem.W.view ROW.prog [31]) hk ob 4000 loose w) (fun w os => by kernel_rfl) (fun w os => by kernel_rfl) w
end K17
namespace K17
open PySem PySem.Spec PyProof.Rows L2 KX M17 NdefX LamX
abbrev LW : PySem.W.OpenLaw := PySem.Challenge.rw_treatalike_k17_every_vote_rule_by_digits
theorem tab_code {K : PySem.W.Frag} {x : Str} {st : Stmt} {fd : FuncData} {base : Heap} {mg : Str → Option Value} (F : FunD K x x (defArgs st) (defBody st) (defScope st) [] [] (He.ga K x) fd) (h : TabB base mg (He.cT K (x, none)).1 (He.cT K (x, none)).2) : ∀ c, fd.code = .ref c → TabB base mg c (He.cT K (x, none)).2 := fun c e => by
  obtain ⟨oc, od, dV, kV, doc, pm, an, cdv, ct, osl, rfl, lk, hcd, hD, hK⟩ := F.ex
  have z : He.codeOf K (x, none) = c := He.codeOf_eq (p := (x, none)) lk e
  rw [← z]
  exact h
theorem kdct {K : PySem.W.Frag} {w : World} {a : Addr} {es : Array DictEntry} {n : Nat} {x : Str} {i : Int} (D : KDict K w a es n) (h : ∃ u, PySem.W.nsIn K a x = some (some u) ∧ RelV (.int i) u) : KDct K w a x (.int i) := by
  obtain ⟨u, h1, h2⟩ := h
  exact ⟨es, n, u, D.at_, D.lit, h1, h2⟩
theorem at_end (w : World) (mg : Str → Option Value) (f : Addr) (h : Heap) (Y : hk.says w h) (G : h.Ns mainGlobals mg) (hf : mg ("law" : Str) = some (.ref f)) : ∃ K : PySem.W.Frag, K.In h ∧ LawAtS LW w K CX0 8 63 "script" mg f h := by
  obtain ⟨K, KX, c⟩ := Y
  refine ⟨K, KX, ?_⟩
  have D := c.t.d
  have glo : ∀ {x : Str}, x ∈ gloN → mg x = some (.ref (He.ga K x)) := fun {x} hx => He.glo_ok KX G (D.facts (List.mem_append_left _ (List.mem_map_of_mem hx)))
  have free : ∀ {x : Str}, x ∈ freeN → mg x = none := fun {x} hx => He.free_ok KX G (D.facts (List.mem_append_right _ (List.mem_map_of_mem hx)))
  have B : Blt mg := ⟨free (by decide +kernel), free (by decide +kernel), free (by decide +kernel), free (by decide +kernel), free (by decide +kernel), free (by decide +kernel), free (by decide +kernel), free (by decide +kernel), free (by decide +kernel), free (by decide +kernel), free (by decide +kernel), free (by decide +kernel), free (by decide +kernel), free (by decide +kernel)⟩
  have m := c.more
  simp only [ex, exB, List.all_cons, List.all_nil, id, Bool.and_eq_true, decide_eq_true_eq] at m
  obtain ⟨m1, m2, m3, m4, m5, m6, m7, m8, m9, m10, m11, m12, _⟩ := m
  obtain ⟨dI, FI⟩ := D.def_ 0 (d := dInit) rfl
  obtain ⟨dB, FB⟩ := D.def_ 1 (d := dOf "bound_check" sBound) rfl
  obtain ⟨dVB, FVB⟩ := D.def_ 2 (d := dOf "vote_bounds" sVB) rfl
  obtain ⟨dTF, FTF⟩ := D.def_ 3 (d := dOf "tuples_from" sTF) rfl
  obtain ⟨dAT, FAT⟩ := D.def_ 4 (d := dOf "asked_tuples" sAT) rfl
  obtain ⟨dCF, FCF⟩ := D.def_ 5 (d := dOf "can_fall" sCF) rfl
  obtain ⟨dFF, FFF⟩ := D.def_ 6 (d := dOf "first_fall" sFF) rfl
  obtain ⟨dFL, FFL⟩ := D.def_ 7 (d := dOf "first_leap" sFL) rfl
  obtain ⟨dVF, FVF⟩ := D.def_ 8 (d := dOf "vote_fault" sVF) rfl
  obtain ⟨dNF, FNF⟩ := D.def_ 9 (d := dOf "named_fault" sNF) rfl
  obtain ⟨dSR, FSR⟩ := D.def_ 10 (d := dOf "_law_source" sSrc) rfl
  obtain ⟨dPK, FPK⟩ := D.def_ 11 (d := dOf "_law_pick" sPick) rfl
  obtain ⟨dON, FON⟩ := D.def_ 12 (d := dOf "_law_one" sOne) rfl
  obtain ⟨dSM, FSM⟩ := D.def_ 13 (d := dOf "_law_same" sSame) rfl
  obtain ⟨dFT, FFT⟩ := D.def_ 14 (d := dOf "_law_fault" sFault) rfl
  obtain ⟨dLT, FLT⟩ := D.def_ 15 (d := dOf "_law_tuples" sLT) rfl
  obtain ⟨dLB, FLB⟩ := D.def_ 16 (d := dOf "_law_below" sLB) rfl
  obtain ⟨dLD, FLD⟩ := D.def_ 17 (d := dOf "_law_due" sLD) rfl
  obtain ⟨dLO, FLO⟩ := D.def_ 18 (d := dOf "_law_outside" sLO) rfl
  obtain ⟨dLA, FLA⟩ := D.def_ 19 (d := dOf "_law_answer" sLA) rfl
  obtain ⟨dTB, FTB⟩ := D.def_ 20 (d := dOf "_law_table" sTab) rfl
  obtain ⟨dAK, FAK⟩ := D.def_ 21 (d := dOf "_law_asked" sAsk) rfl
  obtain ⟨dRD, FRD⟩ := D.def_ 22 (d := dOf "_law_read" sRead) rfl
  obtain ⟨dVO, FVO⟩ := D.def_ 23 (d := dOf "_law_voice" sVoice) rfl
  obtain ⟨dBD, FBD⟩ := D.def_ 24 (d := dOf "_law_bounds" sBd) rfl
  obtain ⟨dLW, FLW⟩ := D.def_ 25 (d := dOf "law" sLaw) rfl
  have bI : Binds K dI ["self", "what"] [] := FunD.bindsN FI fun _ _ _ _ _ _ us hl => match us, hl with | [_, _], _ => rfl
  have bB : Binds K dB ["what", "number"] [] := FunD.bindsN FB fun _ _ _ _ _ _ us hl => match us, hl with | [_, _], _ => rfl
  have bVB : Binds K dVB ["judges", "top"] [] := FunD.bindsN FVB fun _ _ _ _ _ _ us hl => match us, hl with | [_, _], _ => rfl
  have bTF : Binds K dTF ["least", "top"] [] := FunD.bindsN FTF fun _ _ _ _ _ _ us hl => match us, hl with | [_, _], _ => rfl
  have bAT : Binds K dAT ["rule", "judges", "top"] [] := FunD.bindsN FAT fun _ _ _ _ _ _ us hl => match us, hl with | [_, _, _], _ => rfl
  have bCF : Binds K dCF ["told", "top"] [] := FunD.bindsN FCF fun _ _ _ _ _ _ us hl => match us, hl with | [_, _], _ => rfl
  have bFF : Binds K dFF ["told", "top"] [] := FunD.bindsN FFF fun _ _ _ _ _ _ us hl => match us, hl with | [_, _], _ => rfl
  have bFL : Binds K dFL ["told", "top"] [] := FunD.bindsN FFL fun _ _ _ _ _ _ us hl => match us, hl with | [_, _], _ => rfl
  have bVF : Binds K dVF ["rule", "judges", "top"] [] := FunD.bindsN FVF fun _ _ _ _ _ _ us hl => match us, hl with | [_, _, _], _ => rfl
  have bNF : Binds K dNF ["rule", "judges", "top"] [] := FunD.bindsN FNF fun _ _ _ _ _ _ us hl => match us, hl with | [_, _, _], _ => rfl
  have bSR : Binds K dSR ["script", "at"] [] := FunD.bindsN FSR fun _ _ _ _ _ _ us hl => match us, hl with | [_, _], _ => rfl
  have bPK : Binds K dPK ["s", "many"] [] := FunD.bindsN FPK fun _ _ _ _ _ _ us hl => match us, hl with | [_, _], _ => rfl
  have bON : Binds K dON ["s", "things"] [] := FunD.bindsN FON fun _ _ _ _ _ _ us hl => match us, hl with | [_, _], _ => rfl
  have bSM : Binds K dSM ["answer", "due"] [] := FunD.bindsN FSM fun _ _ _ _ _ _ us hl => match us, hl with | [_, _], _ => rfl
  have bFT : Binds K dFT ["error"] [] := FunD.bindsN FFT fun _ _ _ _ _ _ us hl => match us, hl with | [_], _ => rfl
  have bLT : Binds K dLT ["judges", "top"] [] := FunD.bindsN FLT fun _ _ _ _ _ _ us hl => match us, hl with | [_, _], _ => rfl
  have bLB : Binds K dLB ["one", "other"] [] := FunD.bindsN FLB fun _ _ _ _ _ _ us hl => match us, hl with | [_, _], _ => rfl
  have bLD : Binds K dLD ["table", "judges", "top"] [] := FunD.bindsN FLD fun _ _ _ _ _ _ us hl => match us, hl with | [_, _, _], _ => rfl
  have bLO : Binds K dLO ["table", "judges", "top"] [] := FunD.bindsN FLO fun _ _ _ _ _ _ us hl => match us, hl with | [_, _, _], _ => rfl
  have bLA : Binds K dLA ["kind", "at", "row", "top"] [] := FunD.bindsN FLA fun _ _ _ _ _ _ us hl => match us, hl with | [_, _, _, _], _ => rfl
  have bTB : Binds K dTB ["s", "judges", "top"] [] := FunD.bindsN FTB fun _ _ _ _ _ _ us hl => match us, hl with | [_, _, _], _ => rfl
  have bAK : Binds K dAK ["rule", "judges", "top", "which"] [] := FunD.bindsN FAK fun _ _ _ _ _ _ us hl => match us, hl with | [_, _, _, _], _ => rfl
  have bRD : Binds K dRD ["table"] [] := FunD.bindsN FRD fun _ _ _ _ _ _ us hl => match us, hl with | [_], _ => rfl
  have bVO : Binds K dVO ["at"] [] := FunD.bindsN FVO fun _ _ _ _ _ _ us hl => match us, hl with | [_], _ => rfl
  have bBD : Binds K dBD ["s"] [] := FunD.bindsN FBD fun _ _ _ _ _ _ us hl => match us, hl with | [_], _ => rfl
  have bLW : Binds K dLW ["script"] [] := FunD.bindsN FLW fun _ _ _ _ _ _ us hl => match us, hl with | [_], _ => rfl
  replace FI : FunD K "__init__" "TooMany.__init__" (defArgs sInit) (defBody sInit) (defScope sInit) [] [] (cI K) dI := FI
  replace FB : FunD K "bound_check" "bound_check" (defArgs sBound) (defBody sBound) (defScope sBound) [] [] (He.ga K "bound_check") dB := FB
  have gB : mg "bound_check" = some (.ref (He.ga K "bound_check")) := glo (by decide +kernel)
  have GB := fun_of FB
  replace FVB : FunD K "vote_bounds" "vote_bounds" (defArgs sVB) (defBody sVB) (defScope sVB) [] [] (He.ga K "vote_bounds") dVB := FVB
  have gVB : mg "vote_bounds" = some (.ref (He.ga K "vote_bounds")) := glo (by decide +kernel)
  have GVB := fun_of FVB
  replace FTF : FunD K "tuples_from" "tuples_from" (defArgs sTF) (defBody sTF) (defScope sTF) [] [] (He.ga K "tuples_from") dTF := FTF
  have gTF : mg "tuples_from" = some (.ref (He.ga K "tuples_from")) := glo (by decide +kernel)
  have GTF := fun_of FTF
  replace FAT : FunD K "asked_tuples" "asked_tuples" (defArgs sAT) (defBody sAT) (defScope sAT) [] [] (He.ga K "asked_tuples") dAT := FAT
  have gAT : mg "asked_tuples" = some (.ref (He.ga K "asked_tuples")) := glo (by decide +kernel)
  have GAT := fun_of FAT
  replace FCF : FunD K "can_fall" "can_fall" (defArgs sCF) (defBody sCF) (defScope sCF) [] [] (He.ga K "can_fall") dCF := FCF
  have gCF : mg "can_fall" = some (.ref (He.ga K "can_fall")) := glo (by decide +kernel)
  have GCF := fun_of FCF
  replace FFF : FunD K "first_fall" "first_fall" (defArgs sFF) (defBody sFF) (defScope sFF) [] [] (He.ga K "first_fall") dFF := FFF
  have gFF : mg "first_fall" = some (.ref (He.ga K "first_fall")) := glo (by decide +kernel)
  have GFF := fun_of FFF
  replace FFL : FunD K "first_leap" "first_leap" (defArgs sFL) (defBody sFL) (defScope sFL) [] [] (He.ga K "first_leap") dFL := FFL
  have gFL : mg "first_leap" = some (.ref (He.ga K "first_leap")) := glo (by decide +kernel)
  have GFL := fun_of FFL
  replace FVF : FunD K "vote_fault" "vote_fault" (defArgs sVF) (defBody sVF) (defScope sVF) [] [] (He.ga K "vote_fault") dVF := FVF
  have gVF : mg "vote_fault" = some (.ref (He.ga K "vote_fault")) := glo (by decide +kernel)
  have GVF := fun_of FVF
  replace FNF : FunD K "named_fault" "named_fault" (defArgs sNF) (defBody sNF) (defScope sNF) [] [] (He.ga K "named_fault") dNF := FNF
  have gNF : mg "named_fault" = some (.ref (He.ga K "named_fault")) := glo (by decide +kernel)
  have GNF := fun_of FNF
  replace FSR : FunD K "_law_source" "_law_source" (defArgs sSrc) (defBody sSrc) (defScope sSrc) [] [] (He.ga K "_law_source") dSR := FSR
  have gSR : mg "_law_source" = some (.ref (He.ga K "_law_source")) := glo (by decide +kernel)
  have GSR := fun_of FSR
  replace FPK : FunD K "_law_pick" "_law_pick" (defArgs sPick) (defBody sPick) (defScope sPick) [] [] (He.ga K "_law_pick") dPK := FPK
  have gPK : mg "_law_pick" = some (.ref (He.ga K "_law_pick")) := glo (by decide +kernel)
  have GPK := fun_of FPK
  replace FON : FunD K "_law_one" "_law_one" (defArgs sOne) (defBody sOne) (defScope sOne) [] [] (He.ga K "_law_one") dON := FON
  have gON : mg "_law_one" = some (.ref (He.ga K "_law_one")) := glo (by decide +kernel)
  have GON := fun_of FON
  replace FSM : FunD K "_law_same" "_law_same" (defArgs sSame) (defBody sSame) (defScope sSame) [] [] (He.ga K "_law_same") dSM := FSM
  have gSM : mg "_law_same" = some (.ref (He.ga K "_law_same")) := glo (by decide +kernel)
  have GSM := fun_of FSM
  replace FFT : FunD K "_law_fault" "_law_fault" (defArgs sFault) (defBody sFault) (defScope sFault) [] [] (He.ga K "_law_fault") dFT := FFT
  have gFT : mg "_law_fault" = some (.ref (He.ga K "_law_fault")) := glo (by decide +kernel)
  have GFT := fun_of FFT
  replace FLT : FunD K "_law_tuples" "_law_tuples" (defArgs sLT) (defBody sLT) (defScope sLT) [] [] (He.ga K "_law_tuples") dLT := FLT
  have gLT : mg "_law_tuples" = some (.ref (He.ga K "_law_tuples")) := glo (by decide +kernel)
  have GLT := fun_of FLT
  replace FLB : FunD K "_law_below" "_law_below" (defArgs sLB) (defBody sLB) (defScope sLB) [] [] (He.ga K "_law_below") dLB := FLB
  have gLB : mg "_law_below" = some (.ref (He.ga K "_law_below")) := glo (by decide +kernel)
  have GLB := fun_of FLB
  replace FLD : FunD K "_law_due" "_law_due" (defArgs sLD) (defBody sLD) (defScope sLD) [] [] (He.ga K "_law_due") dLD := FLD
  have gLD : mg "_law_due" = some (.ref (He.ga K "_law_due")) := glo (by decide +kernel)
  have GLD := fun_of FLD
  replace FLO : FunD K "_law_outside" "_law_outside" (defArgs sLO) (defBody sLO) (defScope sLO) [] [] (He.ga K "_law_outside") dLO := FLO
  have gLO : mg "_law_outside" = some (.ref (He.ga K "_law_outside")) := glo (by decide +kernel)
  have GLO := fun_of FLO
  replace FLA : FunD K "_law_answer" "_law_answer" (defArgs sLA) (defBody sLA) (defScope sLA) [] [] (He.ga K "_law_answer") dLA := FLA
  have gLA : mg "_law_answer" = some (.ref (He.ga K "_law_answer")) := glo (by decide +kernel)
  have GLA := fun_of FLA
  replace FTB : FunD K "_law_table" "_law_table" (defArgs sTab) (defBody sTab) (defScope sTab) [] [] (He.ga K "_law_table") dTB := FTB
  have gTB : mg "_law_table" = some (.ref (He.ga K "_law_table")) := glo (by decide +kernel)
  have GTB := fun_of FTB
  replace FAK : FunD K "_law_asked" "_law_asked" (defArgs sAsk) (defBody sAsk) (defScope sAsk) [] [] (He.ga K "_law_asked") dAK := FAK
  have gAK : mg "_law_asked" = some (.ref (He.ga K "_law_asked")) := glo (by decide +kernel)
  have GAK := fun_of FAK
  replace FRD : FunD K "_law_read" "_law_read" (defArgs sRead) (defBody sRead) (defScope sRead) [] [] (He.ga K "_law_read") dRD := FRD
  have gRD : mg "_law_read" = some (.ref (He.ga K "_law_read")) := glo (by decide +kernel)
  have GRD := fun_of FRD
  replace FVO : FunD K "_law_voice" "_law_voice" (defArgs sVoice) (defBody sVoice) (defScope sVoice) [] [] (He.ga K "_law_voice") dVO := FVO
  have gVO : mg "_law_voice" = some (.ref (He.ga K "_law_voice")) := glo (by decide +kernel)
  have GVO := fun_of FVO
  replace FBD : FunD K "_law_bounds" "_law_bounds" (defArgs sBd) (defBody sBd) (defScope sBd) [] [] (He.ga K "_law_bounds") dBD := FBD
  have gBD : mg "_law_bounds" = some (.ref (He.ga K "_law_bounds")) := glo (by decide +kernel)
  have GBD := fun_of FBD
  replace FLW : FunD K "law" "law" (defArgs sLaw) (defBody sLaw) (defScope sLaw) [] [] (He.ga K "law") dLW := FLW
  have gLW : mg "law" = some (.ref (He.ga K "law")) := glo (by decide +kernel)
  have GLW := fun_of FLW
  have e := hf.symm.trans gLW
  cases e
  obtain ⟨es, n, KD⟩ := c.t.tab 0 (t := (fun K => He.ga K "LIMITS", ["facts", "nevers", "questions", "makers", "powers", "clauses", "bills", "deeds", "names", "stages", "size", "letters", "rows", "top", "judges", "tables", "files"])) rfl
  have T : ErrT K mg (cC K) (cI K) dI := ⟨⟨oexB_ok m1, m2, m3, m4, m5⟩, m6, m7, m8, glo (by decide +kernel), fun_of FI, bI⟩
  have L : LimT K w mg (He.ga K "LIMITS") := ⟨glo (by decide +kernel), kdct KD (He.valsB_ok m11 (q := ("top", .int 100)) (List.mem_cons_self ..)), kdct KD (He.valsB_ok m11 (q := ("judges", .int 3)) (List.mem_cons_of_mem _ (List.mem_cons_self ..))), kdct KD (He.valsB_ok m11 (q := ("tables", .int 1000)) (List.mem_cons_of_mem _ (List.mem_cons_of_mem _ (List.mem_cons_self ..))))⟩
  have XT : XfC K (cC K) := xfB_ok m9
  have R : Prg K mg (He.ga K "bound_check") (He.ga K "vote_bounds") (He.ga K "tuples_from") (He.ga K "asked_tuples") (He.ga K "can_fall") (He.ga K "first_fall") (He.ga K "first_leap") dB dVB dTF dAT dCF dFF dFL :=
    ⟨GB, bB, gB, GVB, bVB, gVB, GTF, bTF, gTF, GAT, bAT, gAT, GCF, bCF, gCF, GFF, bFF, gFF, GFL, bFL, gFL⟩
  have W : Drw K mg (He.ga K "_law_pick") (He.ga K "_law_one") (He.ga K "_law_tuples") (He.ga K "_law_answer") dPK dON dLT dLA := ⟨GPK, bPK, gPK, GON, bON, gON, GLT, bLT, gLT, GLA, bLA, gLA⟩
  refine ⟨dLW, [He.cT K ("_law_read", none), He.cT K ("_law_voice", none)], spLaw K (He.cT K ("_law_read", none)).2 (He.cT K ("_law_voice", none)).2, fun p hp => ?_, fun p hp => ?_, fun p hp => ?_, fun s u => FunD.bindsA (ps := ["script"]) FLW (fun _ _ _ _ _ _ us hl => match us, hl with | [_], _ => rfl) s [u] rfl, fun H a ns hl _ ht hS => ⟨a, ns, rfl, hS, hl, fun p hp => ?_, fun _ => rfl⟩, fun base KB GB2 TBs => ?_⟩
  · rcases List.mem_cons.mp hp with e | hp
    · rw [e]; exact c.empty _ (List.mem_cons_self ..)
    · rw [List.mem_singleton.mp hp]; exact c.empty _ (List.mem_cons_of_mem _ (List.mem_cons_self ..))
  · rcases List.mem_cons.mp hp with e | hp
    · rw [e]; exact c.out _ (List.mem_cons_self ..)
    · rw [List.mem_singleton.mp hp]; exact c.out _ (List.mem_cons_of_mem _ (List.mem_cons_self ..))
  · rcases List.mem_cons.mp hp with e | hp
    · rw [e]; exact PySem.W.codeHd_of_K KX (c.hd _ (List.mem_cons_self ..))
    · rw [List.mem_singleton.mp hp]; exact PySem.W.codeHd_of_K KX (c.hd _ (List.mem_cons_of_mem _ (List.mem_cons_self ..)))
  · rcases List.mem_cons.mp hp with e | hp
    · rw [e]; exact TabN.nil (ht _ (List.mem_cons_self ..))
    · rw [List.mem_singleton.mp hp]; exact TabN.nil (ht _ (List.mem_cons_of_mem _ (List.mem_cons_self ..)))
  · have tR := tab_code FRD (TBs _ (List.mem_cons_self ..))
    have tV := tab_code FVO (TBs _ (List.mem_cons_of_mem _ (List.mem_cons_self ..)))
    have S0 : FnOk LW.prog w K mg base CX0 1 (He.ga K "_law_same") dSM ["answer", "due"] (spSame 0) := ok_Same0 GSM B
    have S2 : FnOk LW.prog w K mg base CX0 3 (He.ga K "_law_same") dSM ["answer", "due"] (spSame 2) := ok_SameS GSM B gSM bSM (ok_SameS GSM B gSM bSM S0)
    have L1 : Lst LW.prog w K mg base (He.cT K ("_law_read", none)).2 (He.cT K ("_law_voice", none)).2 (He.ga K "_law_pick") (He.ga K "_law_one") (He.ga K "_law_asked") (He.ga K "_law_same") (He.ga K "_law_voice") (He.ga K "_law_read") dPK dON dAK dSM dVO dRD :=
      ⟨ok_Pick GPK B.int, GPK.kp, bPK, gPK, ok_One GON GPK bPK gPK B.int B.len, GON.kp, bON, gON, ok_Ask GAK R B T L XT GVF bVF gVF GNF bNF gNF GFT bFT gFT (glo (by decide +kernel)) m10, GAK.kp, bAK, gAK, S2, GSM.kp, bSM, gSM, ok_Voice GVO tV m12, GVO.kp, bVO, gVO, ok_Read GRD tR m12, GRD.kp, bRD, gRD⟩
    have L2 : Lst2 LW.prog w K mg base (He.cT K ("_law_read", none)).2 (He.cT K ("_law_voice", none)).2 (He.ga K "_law_source") (He.ga K "_law_table") (He.ga K "_law_due") (He.ga K "_law_outside") (He.ga K "_law_bounds") dSR dTB dLD dLO dBD :=
      ⟨ok_Src GSR B.int B.len, GSR.kp, bSR, gSR, ok_Tab GTB W B, GTB.kp, bTB, gTB, ok_LD GLD GLT GLB bLT bLB gLT gLB B, GLD.kp, bLD, gLD, ok_LO GLO GLT bLT gLT B, GLO.kp, bLO, gLO, ok_Bd GBD L1 B, GBD.kp, bBD, gBD⟩
    exact ok_Law GLW L1 L2 B
end K17
open PySem PySem.W PySem.Calls PyProof.Rows
set_option maxHeartbeats 0 in
theorem PySem.Challenge.cw_treatalike_k17_every_vote_rule_by_digits_holds : PySem.Challenge.rw_treatalike_k17_every_vote_rule_by_digits.Holds := by
  w_on; o_law
  refine HandSHeadRun.head_any (r := K17.ROW) (q := view K17.ROW.prog [31]) (H := K17.hk) (ob := K17.ob) (M := 4000) (loose := K17.loose) (d := HandSHeadRun.topDef K17.ROW.prog 31) (kwd := []) K17.ob_eq
    (by kernel_rfl) (fun s => by kernel_rfl) K17.run (by kernel_rfl) (by kernel_rfl) (by kernel_rfl) (by rfl) (by first | assumption | decide +kernel) (by decide +kernel) ⟨rfl, rfl, rfl, rfl, rfl, by decide +kernel⟩ ?hw ?hc
  case hw => w_witness2
  case hc =>
    refine LamX.walk_ofTsE (l := K17.LW) (n := 63) (k := 8) (x := "script") (CX := fun _ => L2.CX0) rfl (by decide) (by kernel_rfl) ⟨rfl, by decide, by decide⟩ ?F (fun _ _ _ _ _ z => z)
    intro w mg fa h Y G hmg0
    have hmg : mg ("law" : PySem.Str) = some (.ref fa) := by
      have e : (HandSHeadRun.topDef K17.ROW.prog 31).name = ("law" : PySem.Str) := by kernel_rfl
      rw [← e]
      exact hmg0
    exact K17.at_end w mg fa h Y G hmg
