import PyProof.Rows.All
import Wide.All
import OpenK.AllK
import Wide.FinOn
import HandS.ForMost
import KE.KDictDisplayH
import KE.SortData
import KE.KDictSum
import KE.KDictCopyH
import KE.GoesEnum
import HandS.Walk
import HandS.SetFor
import HandS.Strs
import PyProof.ListNew
import HandS.Deep
import HandS.TupSets
import HandS.TupLe
import HandS.TupAny
import HandS.IsInst
import HandS.SortRule
import HandS.SortInts
import HandS.Codes
import HandS.Sort
import PySem.Challenge.RW_passlights_k13_whole_least_ways

set_option Elab.async false
set_option linter.all false
set_option maxRecDepth 100000
namespace Pr
open PySem PySem.Spec PyProof.Rows L2
section
variable {X : Cx}
/-- one pair {k: v}, the key a tuple -/
def tDisp1T (tk tv : TE) : TE := fun σ H Q => ∀ p, H p = none → tk σ (upd H p (.dT [])) fun x H1 => tv σ H1 fun y H2 =>
  ∃ (b : Addr) (ks : List Key), x = .ref b ∧ H2 b = some (.tup (ks.map kV)) ∧ H2 p = some (.dT []) ∧ Q (.ref p) (upd H2 p (.dT [(ks, y)]))
theorem pe_disp1T {pos : Pos} {k v : Expr} {tk tv : TE} (hu : X.A.units + 1 < cLine) (hk : PE X k tk) (hv : PE X v tv) : PE X (.Dict [some k] [v] pos) (tDisp1T tk tv) := by
  refine ⟨fun pins s σ H Q I q => ?_⟩
  have room : (tupleKind (mixKind X.prog X.w)).room X.A := by show X.A.units < cLine; omega
  have free := I.hok.fresh (Nat.le_refl s.heap.objs.size)
  have I1 := I.laid (a := s.heap.objs.size) (o := .dT []) (h' := s.heap.push { cls := .type "dict", data := .dict #[] }) (t' := s.toks)
    (fun _ _ e => Heap.get?_push_of_some _ e) (Nat.le_refl _) (dt_empty s.heap I.big)
  rw [arm_eval_Dict, zip_pairTrees [some k] [v] X.env pos rfl rfl, dictDisplay_pairs _ (by simp [pairTrees]) (by simp [pairTrees])]
  refine wpAny_bind (wpAny_standAt (wpAny_bind ?_))
  refine wpAny_subDictH (knd := tupleKind (mixKind X.prog X.w)) (Q := fun d s' => wpAny (model X.prog X.w) X.A (pure (Value.ref d)) (EP X pins σ Q) X.xe s') room (by simp [pairTrees]) ?_
  refine pairTrees_cons_walk (thn (hk.run pins _ σ _ _ I1 (q _ free)) fun u s1 ⟨x, H1, J1, rx, q1⟩ => ?_)
  refine thn (hv.run pins s1 σ H1 _ J1 q1) fun w2 s2 ⟨y, H2, J2, ry, b, ks, ex, eb, ep, q2⟩ => pairTrees_nil_walk ?_
  subst ex
  cases (show u = Value.ref b from rx)
  obtain ⟨z, hd, xs, rel, dd⟩ := dt_of J2.hok ep
  have exs : xs = [] := by
    have := Paired.length rel
    exact List.eq_nil_of_length_eq_zero this.symm
  subst exs
  refine ⟨[(ks, b, w2)], ⟨rfl, rfl, key_of J2.hok eb, trivial⟩, dd, fun h' tk dd' hs => wpAny_pure ⟨.ref s.heap.objs.size, _, ?_, rfl, q2⟩⟩
  obtain ⟨o, es, ec, ho, h2, h3, h4, _, h5⟩ := dd'
  refine d_write J2 (by rw [ep]; exact True.intro) hs ⟨o, ho⟩ ⟨by show 1 ≤ sizeLine; decide, hd, [(ks, b, w2)], ?_, o, es, ec, ho, h2, h3, h4, h5⟩
  refine .cons ⟨rfl, ?_, ry⟩ .nil
  show upd H2 s.heap.objs.size _ b = _
  rw [upd_ne (ne_of eb ep (fun z => nomatch z))]
  exact eb
end
end Pr


set_option Elab.async false
set_option linter.all false
set_option maxRecDepth 100000
namespace Pr
open PySem PySem.Spec PyProof.Rows L2
/-- sorted of anything: its items, a new list, that list sorted -/
theorem sorted_by {P : Program} {w : World} {A : Around} {E : Value → Shared → Prop} {s : Shared} {v : Value} {Q : Value → Shared → Prop}
    (hcol : ∀ E1 : Value → Shared → Prop, wpAny (model P w) A.in1 (collect v) (fun vs s1 => vs.length ≤ sizeLine ∧ ∀ E2 : Value → Shared → Prop,
      wpAny (model P w) A.in1 (call (.builtin "list.sort") [.ref s1.heap.objs.size]) (fun _ s2 => Q (.ref s1.heap.objs.size) s2) E2 { s1 with heap := s1.heap.push (seqObj "list" vs.toArray 0) }) E1 s) :
    wpAny (model P w) A (call (.builtin "sorted") [v]) Q E s := by
  refine Calls.call_function_entry kind_sorted plain_sorted entry_sorted (args_sorted1 _) ?_
  unfold Builtin.«sorted»
  refine wpAny_bind (m := checkCount "sorted" 1 1 _) (wpAny_pure (wpAny_bind (thn (hcol _) fun vs s1 ⟨hz, hs⟩ => ?_)))
  exact wpAny_bind (wpAny_newList (wpAny_bind (wpAny_holding (thn (hs _) fun _ s2 q => wpAny_pure ⟨_, rfl, q⟩))) hz)
section
variable {X : Cx}
theorem each_ints {h : Heap} : ∀ {us : List Value} {ns : List Int}, IntsAre us ns → PySem.W.EachIs (fun v b => (∃ t, v = Value.int b t) ∧ ∃ as, Reads h v (PyData.int b) as) us ns
  | _, _, .nil => .nil
  | _, _, .cons n t r => .cons ⟨⟨t, rfl⟩, _, Reads.int _ _⟩ (each_ints r)
theorem ints_each : ∀ {us : List Value} {ns : List Int}, PySem.W.EachIs (fun v b => ∃ t, v = Value.int b t) us ns → IntsAre us ns
  | _, _, .nil => .nil
  | _, _, .cons (b := b) h r => by
    obtain ⟨t, rfl⟩ := h
    exact .cons b t (ints_each r)
/-- sorted(t), t a tuple of ints -/
def rSortedTI (K : PySem.W.Frag) : List V → Hp → VK → Prop := fun vs H Q => ∃ (a : Addr) (ns : List Int), vs = [V.ref a] ∧ SqT K H a (ns.map V.int) ∧ ns.length < 64 ∧
  ∀ (ns' : List Int) (p : Addr), ns'.Perm ns → ns'.Pairwise (· ≤ ·) → H p = none → Q (.ref p) (upd H p (.lst (ns'.map V.int)))
theorem cr_sortedTI (hu : X.A.units + 64 < cLine) : CallR X (.builtin "sorted") (rSortedTI X.K) := fun pins s σ H vs us Q I r h => by
  obtain ⟨a, ns, rfl, hs, h64, q⟩ := h
  obtain ⟨its, rv, ⟨o, ho, hc, n, hd⟩, hz⟩ := I.tuple hs
  rw [Vals.ref1 r]
  have hi := rv.ints
  have hlen := hi.length
  have hsz : its.toArray.size ≤ sizeLine := by rw [List.size_toArray, hlen]; exact small64 h64
  refine sorted_by fun E1 => wpAny_collect_seq (hsz := hsz) a (.inr rfl) ho hc hd fun h1 k1 => ⟨hsz, fun E2 => ?_⟩
  · show wpAny _ _ (call (Value.builtin "list.sort") [Value.ref h1.objs.size]) _ _ { s with heap := h1.push (seqObj "list" its.toArray 0) }
    have hoL : (h1.push (seqObj "list" its.toArray 0)).get? h1.objs.size = some (seqObj "list" its.toArray 0) := Heap.get?_push_size _ rfl
    have ei := each_ints (h := h1.push (seqObj "list" its.toArray 0)) hi
    refine PySem.W.list_sort_data (s := { s with heap := h1.push (seqObj "list" its.toArray 0) }) (enc := PyData.int) (bs := ns) (R := fun v b => ∃ t, v = Value.int b t) hoL (ei.mono fun _ _ z => z.1)
      (ei.mono fun v b z => ?_) ?_ (PySem.W.Sortable.others fun b => ⟨by simp, by simp⟩) (by rw [sizeLine_eq]; omega) (fun b _ => ?_) fun out l1 l2 => ?_
    · obtain ⟨t, rfl⟩ := z.1
      exact ⟨[], Reads.int _ _, by simp⟩
    · intro d hd d' hd'
      obtain ⟨x, _, rfl⟩ := List.mem_map.1 hd
      obtain ⟨y, _, rfl⟩ := List.mem_map.1 hd'
      rfl
    · show X.A.in1.units + 1 + 0 < cLine
      have : X.A.in1.units = X.A.units + 1 := rfl
      omega
    · obtain ⟨ep, he⟩ := sortedHeap_at (vs := its) (out := out.toArray) hoL
      have e1 : (ns.mergeSort (PySem.W.dataLe false PyData.int)) = ns.mergeSort (fun a b => decide (a ≤ b)) := by
        rw [PySem.W.dataLe_int (fun b : Int => b)]
      rw [e1] at l2
      have pm : (ns.mergeSort (fun a b => decide (a ≤ b))).Perm ns := List.mergeSort_perm _ _
      have pw : (ns.mergeSort (fun a b => decide (a ≤ b))).Pairwise (· ≤ ·) := by
        have := List.pairwise_mergeSort (le := fun a b : Int => decide (a ≤ b)) (fun a b c h1 h2 => by simp at *; omega) (fun a b => by simp; omega) ns
        exact this.imp fun h => of_decide_eq_true h
      have I1 : Inv X pins σ H { s with heap := h1 } := I.kept (t' := s.toks) k1
      have hk : ∀ b u, h1.get? b = some u → (sortedHeap (h1.push (seqObj "list" its.toArray 0)) h1.objs.size its out.toArray).get? b = some u := fun b u q1 => by
        have lt := Heap.lt_size q1
        rw [sortedHeap_old (Nat.ne_of_lt lt) (by rw [size_push']; exact Nat.lt_succ_of_lt lt)]
        exact Heap.get?_push_of_some _ q1
      have hl2 : (ns.mergeSort (fun a b => decide (a ≤ b))).length ≤ sizeLine := by rw [pm.length_eq]; exact small64 h64
      exact ⟨.ref h1.objs.size, upd H h1.objs.size (.lst ((ns.mergeSort (fun a b => decide (a ≤ b))).map V.int)), I1.laid (t' := s.toks) hk (Nat.le_refl _) ⟨by rw [List.length_map]; exact hl2, out, ep, vals_of_ints (ints_each l2), he⟩, rfl,
        q _ _ pm pw (I1.hok.fresh (Nat.le_refl _))⟩
end
end Pr


set_option Elab.async false
set_option linter.all false
set_option maxRecDepth 100000
namespace Pr
open PySem PySem.Spec PyProof.Rows L2
/-- the view d.keys() at p -/
def keysO (d p : Addr) : HO := .ext fun h => PySem.W.KdlKeysView h p d
theorem keysO_ok {P : Program} {w : World} {H : Hp} {h : Heap} {p d : Addr} (e : h.get? p = some { cls := .type "dict_keys", data := .fields #[.ref d] }) : ObjOk P w H h p (keysO d p) :=
  ⟨⟨_, e, rfl, rfl⟩, ⟨_, e⟩, fun _ _ ⟨o, ho, r⟩ k => ⟨o, k o ho, r⟩⟩
section
variable {X : Cx}
/-- d.keys() of a dict with tuple keys -/
def rKeysT : V → List V → Hp → VK → Prop := fun x xs H Q => ∃ (a : Addr) (kvs : List (List Key × V)), x = .ref a ∧ xs = [] ∧ H a = some (.dT kvs) ∧ ∀ p, H p = none → Q (.ref p) (upd H p (keysO a p))
theorem mt_keysT : MtR X "dict.keys" rKeysT := fun pins s σ H x xs v us Q I rx rxs h => by
  obtain ⟨a, kvs, rfl, rfl, ha, q⟩ := h
  cases rx
  cases rxs
  obtain ⟨z, hd, xs', rel, o, es, ep, ho, hx, hdat, _⟩ := dt_of I.hok ha
  have raw : s.heap.DictRaw a es ep := ⟨o, ho, hx, hdat⟩
  refine call_meetsIn PySem.F.slot_dict_keys raw.typeIs PySem.F.entry_dict_keys (PySem.F.args_dict_keys_1 _) (meets_dict_keys_raw a hd) ⟨⟨es, ep, raw⟩, ?_⟩
  have I2 := I.laid (a := s.heap.objs.size) (o := keysO a s.heap.objs.size) (h' := s.heap.push { cls := .type "dict_keys", data := .fields #[.ref a] }) (t' := s.toks) (fun _ _ e => Heap.get?_push_of_some _ e) (Nat.le_refl _) (keysO_ok (Heap.get?_push_size _ rfl))
  exact ⟨.ref s.heap.objs.size, _, I2, rfl, q _ (I.hok.fresh (Nat.le_refl _))⟩
/-- a tuple of ints as data -/
def tupD (S : List Int) : PyData := .tuple (S.map .int)
theorem tupD_depth : ∀ S : List Int, PyData.depthAll (S.map PyData.int) = 0
  | [] => by simp [PyData.depthAll]
  | x :: r => by simp [PyData.depthAll, PyData.depth, tupD_depth r]
theorem alikeAll_tup : ∀ xs ys : List Int, PySem.W.alikeAll (xs.map .int) (ys.map .int) = true
  | [], _ => by simp [PySem.W.alikeAll]
  | _ :: _, [] => by simp [PySem.W.alikeAll]
  | x :: r, y :: t => by simp [PySem.W.alikeAll, PySem.W.alike, alikeAll_tup r t]
theorem alike_tup (S T : List Int) : PySem.W.alike (tupD S) (tupD T) = true := by
  show PySem.W.alikeAll _ _ = true
  exact alikeAll_tup S T
theorem reads_ints {h : Heap} : ∀ {us : List Value} {ns : List Int}, IntsAre us ns → ReadsAll h us (ns.map PyData.int) []
  | _, _, .nil => .nil
  | _, _, .cons n t r => .cons (Reads.int _ _) (reads_ints r)
theorem reads_tupD {h : Heap} {b : Addr} {its : List Value} {S : List Int} (hb : IsTup h b its.toArray) (hi : IntsAre its S) : Reads h (.ref b) (tupD S) [] := by
  obtain ⟨o, ho, hc, n, hd⟩ := hb
  exact .tuple ho hc hd (by simpa using reads_ints hi)
/-- the addresses of a dict's keys, with what they name -/
theorem keys_at {H : Hp} : ∀ {kvs : List (List Key × V)} {xs : List (List Key × Addr × Value)} {Ss : List (List Int)}, KT H kvs xs → kvs.map (·.1) = Ss.map (fun S => S.map Sum.inl) →
    ∃ bs : List (Addr × List Int), bs.map (·.1) = xs.map (·.2.1) ∧ bs.map (·.2) = Ss ∧ ∀ p ∈ bs, H p.1 = some (.tup (p.2.map V.int))
  | _, _, [], .nil, _ => ⟨[], rfl, rfl, fun p hp => by cases hp⟩
  | _, _, _ :: _, .nil, e => by simp at e
  | _, _, [], .cons _ _, e => by simp at e
  | p :: kvs, q :: xs, S :: Ss, .cons h t, e => by
    simp only [List.map_cons, List.cons.injEq] at e
    obtain ⟨bs, h1, h2, h3⟩ := keys_at t e.2
    refine ⟨(q.2.1, S) :: bs, by simp [h1], by simp [h2], fun r hr => ?_⟩
    rcases List.mem_cons.1 hr with z | hr
    · subst z
      show H q.2.1 = _
      rw [h.2.1, e.1, List.map_map]
      rfl
    · exact h3 r hr
/-- the sort of a list of tuples of ints, whatever their lengths: the same items -/
theorem sort_keys {P : Program} {w : World} {A : Around} {E : Value → Shared → Prop} {s : Shared} {bs : List (Addr × List Int)} {l : Addr} {n : Nat} {Q : Value → Shared → Prop} (hu : A.units + 10 < cLine)
    (ho : s.heap.get? l = some (seqObj "list" (bs.map fun p => Value.ref p.1).toArray n)) (hb : ∀ p ∈ bs, ∃ its : List Value, IsTup s.heap p.1 its.toArray ∧ IntsAre its p.2) (hk : (∀ p ∈ bs, p.2 ≠ []) ∨ bs.map (·.2) = [[]]) (hL : bs.length ≤ sizeLine)
    (h : ∀ out : List Value, out.length = bs.length → (∀ v ∈ out, ∃ p ∈ bs, v = Value.ref p.1) → Q .none { s with heap := sortedHeap s.heap l (bs.map fun p => Value.ref p.1) out.toArray }) : wpAny (model P w) A (call (.builtin "list.sort") [.ref l]) Q E s := by
  rcases hk with hk | hk
  · have e1 : PySem.W.EachIs (fun v (b : Addr × List Int) => v = Value.ref b.1 ∧ b ∈ bs) (bs.map fun p => Value.ref p.1) bs := by
      have key : ∀ cs : List (Addr × List Int), (∀ p ∈ cs, p ∈ bs) → PySem.W.EachIs (fun v (b : Addr × List Int) => v = Value.ref b.1 ∧ b ∈ bs) (cs.map fun p => Value.ref p.1) cs := by
        intro cs
        induction cs with
        | nil => intro _; exact .nil
        | cons p r ih => intro z; exact .cons ⟨rfl, z p List.mem_cons_self⟩ (ih fun q hq => z q (List.mem_cons_of_mem _ hq))
      exact key bs fun _ z => z
    have dep : ∀ S : List Int, (tupD S).depth ≤ 1 := fun S => by
      show PyData.depth (.tuple (S.map .int)) ≤ 1
      simp [PyData.depth, tupD_depth]
    refine PySem.W.list_sort_data (enc := fun p : Addr × List Int => tupD p.2) (bs := bs) (R := fun v b => v = Value.ref b.1 ∧ b ∈ bs) ho e1 (e1.mono fun v b z => ?_) ?_ (.inl ?_) hL (fun b _ => ?_) fun out l1 l2 => h out l1 fun v hv => ?_
    · obtain ⟨rfl, hm⟩ := z
      obtain ⟨its, i1, i2⟩ := hb b hm
      exact ⟨[], reads_tupD i1 i2, by simp⟩
    · intro d hd d' hd'
      obtain ⟨x, _, rfl⟩ := List.mem_map.1 hd
      obtain ⟨y, _, rfl⟩ := List.mem_map.1 hd'
      exact alike_tup _ _
    · intro d hd
      obtain ⟨x, hx, rfl⟩ := List.mem_map.1 hd
      cases e : x.2 with
      | nil => exact absurd e (hk x hx)
      | cons a r => exact ⟨.int a, r.map .int, by simp [tupD, e]⟩
    · have := dep b.2
      omega
    · obtain ⟨b, hb, z, hm⟩ := l2.left v hv
      exact ⟨b, hm, z⟩
  · obtain ⟨b, rfl⟩ : ∃ b, bs = [(b, [])] := by
      match bs, hk with
      | [(b, [])], _ => exact ⟨b, rfl⟩
    obtain ⟨its, ⟨o, ht, hc, m, hd⟩, i2⟩ := hb (b, []) List.mem_cons_self
    cases i2
    have ne : b ≠ l := fun z => by
      subst z
      rw [ho] at ht
      have := Option.some.inj ht
      rw [← this] at hc
      exact absurd hc (by simp [seqObj])
    let κ : PyProof.Rows.KeyKind := { α := Unit, blt := fun _ _ => false, irrefl := fun _ => rfl, trans := fun _ _ _ z _ => z, negTrans := fun _ _ _ z => .inl z, total := fun _ _ _ _ => rfl, keyOf := fun v => if v = Value.ref b then some () else none, dflt := () }
    have hh : (PySem.W.sortingHeap s.heap l [Value.ref b]).get? b = some o := PySem.W.sortingHeap_old ne ht
    have S : PySem.W.SortsAt P w A.in1 { s with heap := PySem.W.sortingHeap s.heap l [Value.ref b] } κ [Value.ref b] := by
      refine ⟨fun v hv => ⟨(), ?_⟩, tuples' true, fun E x y a c Q hx hy hq => ?_, fun z => absurd z (by simp)⟩
      · have : v = Value.ref b := by simpa using hv
        show (if v = Value.ref b then some () else none) = some ()
        rw [if_pos this]
      · have ex : x = Value.ref b := by
          have : (if x = Value.ref b then some () else none) = some a := hx
          by_cases z : x = Value.ref b
          · exact z
          · rw [if_neg z] at this; cases this
        have ey : y = Value.ref b := by
          have : (if y = Value.ref b then some () else none) = some c := hy
          by_cases z : y = Value.ref b
          · exact z
          · rw [if_neg z] at this; cases this
        subst ex ey
        refine PySem.W.kat_lt hh hd hh hd ?_
        exact hq
    refine wpAny_call_entry slot_list_sort ⟨_, ho, rfl⟩ entry_list_sort (PySem.W.list_sort_vals (κ := κ) ho S hL ⟨.none, rfl, ?_⟩) (args_list_sort _)
    refine h _ (PySem.W.sortVals_length false rfl) fun v hv => ⟨(b, []), List.mem_cons_self, ?_⟩
    have := PySem.W.sortVals_mem false hv
    simpa using this
end
end Pr


set_option Elab.async false
set_option linter.all false
set_option maxRecDepth 100000
namespace Pr
open PySem PySem.Spec PyProof.Rows L2
set_option maxHeartbeats 1000000 in
/-- enumerate.__new__ of anything that begins an iterator -/
theorem meets_enum1 {v : Value} {o : Obj} {G : Heap → Prop} (B : Begins v o G) : Meets (Builtin.«enumerate.__new__» ⟨[.type "enumerate", v], []⟩) (fun _ R s => G s.heap ∧
    R (.ok (.ret (.ref (s.heap.push o).objs.size))) { s with heap := (s.heap.push o).push { cls := .type "enumerate", data := .fields #[.none, .bool false, .ref s.heap.objs.size, rawInt 0, .none, .none] } }) :=
  .of_wp fun prog w A R s h => by
    obtain ⟨hp, g, d, tk, os⟩ := s
    obtain ⟨h1, h⟩ := h
    have hsub := sub_enumerate
    have it1 : ∀ {A1 : Around} {E : Value → Shared → Prop} {Q : Value → Shared → Prop}, Q (.ref hp.objs.size) ⟨hp.push o, g, d, tk, os⟩ → wpAny (model prog w) A1 (pyIter v) Q E ⟨hp, g, d, tk, os⟩ := fun q => B.iter prog w _ _ ⟨hp, g, d, tk, os⟩ _ h1 q
    wp_walk using it1
    refine wpAny_stack_any fun st => wpAny_pure ?_
    split
    · rename_i c _ _ _ _ _
      rcases (c == Value.type "enumerate") with _ | _ <;> (wp_walk using it1; exact ⟨_, rfl, h⟩)
    · wp_walk using it1
      exact ⟨_, rfl, h⟩
theorem call_enum1 {prog : Program} {w : World} {A : Around} {E : Value → Shared → Prop} {s : Shared} {v : Value} {o : Obj} {G : Heap → Prop} {Q : Value → Shared → Prop} (B : Begins v o G) (h1 : G s.heap)
    (h : ∀ h', IsEnum h' (s.heap.objs.size + 1) s.heap.objs.size 0 .none → h'.get? s.heap.objs.size = some o → (∀ b u, s.heap.get? b = some u → h'.get? b = some u) → Q (.ref (s.heap.objs.size + 1)) { s with heap := h' }) :
    wpAny (model prog w) A (call (.type "enumerate") [v]) Q E s := by
  refine callType_new PySem.F.called_enumerate (by decide) (PySem.F.typeCall_enumerate_1 _) (PySem.F.newCall_enumerate_1 _) (fun obj => PySem.F.args_object_init_2 obj _) PySem.F.entry_enumerate_new (meets_enum1 B) ⟨h1, ?_⟩
  have hz : (s.heap.push o).objs.size = s.heap.objs.size + 1 := Heap.size_push ..
  have he := Heap.get?_push_size (s.heap.push o) (o := { cls := .type "enumerate", data := .fields #[.none, .bool false, .ref s.heap.objs.size, rawInt 0, .none, .none] }) rfl
  show _ ∧ _
  rw [hz] at he ⊢
  exact ⟨⟨_, he, rfl⟩, h _ he (Heap.get?_push_of_some _ (Heap.get?_push_size _ B.free)) fun b u x => Heap.get?_push_of_some _ (Heap.get?_push_of_some _ x)⟩
/-- enumerate(t), t a tuple that stands: each item in a new pair -/
def ItT (K : PySem.W.Frag) (a : Addr) (xs : List V) : It where
  go := fun i H => SqT K H a xs ∧ i < xs.length
  yld := fun i H v H' => ∃ T x, v = .ref T ∧ H T = none ∧ H' = upd H T (.tup [.int (i : Nat), x]) ∧ xs[i]? = some x
  stop := fun i H => SqT K H a xs ∧ xs.length ≤ i
theorem turn_enumT {P : Program} {w : World} {K : PySem.W.Frag} {elts : List Expr} {kk : Nat} {tpos : Pos} (a e it : Addr) (xs : List V) :
    Turn P w K (.Tuple elts kk tpos) (ItT K a xs) [e, it] e (fun i h => (∃ old, IsEnum h e it ((i : Nat) : Int) old) ∧ h.IsTupleIter it a i ∧ e ≠ it ∧ i ≤ xs.length) where
  mem := by simp
  obj := fun i h st b hb => by
    obtain ⟨⟨old, he⟩, ⟨o, ho, hc, hd⟩, _⟩ := st
    rcases (show b = e ∨ b = it by simpa using hb) with rfl | rfl
    · exact ⟨_, he, fun v q => nomatch q⟩
    · exact ⟨o, ho, fun v q => by rw [hd] at q; cases q⟩
  keep := fun i h h' st k => ⟨let ⟨old, he⟩ := st.1; ⟨old, k e (by simp) _ he⟩, st.2.1.at fun o q => k it (by simp) o q, st.2.2⟩
  item := by
    intro X hP hw hK hc i pins s σ H E I hf st hg
    subst hP hw hK
    obtain ⟨⟨old, he⟩, hit, hne, hle⟩ := st
    obtain ⟨hq, hlt⟩ := hg
    obtain ⟨x, hx⟩ : ∃ x, xs[i]? = some x := ⟨_, List.getElem?_eq_getElem hlt⟩
    obtain ⟨its, rv, p, hz⟩ := I.tuple hq
    have hel : e < s.heap.objs.size := Heap.lt_size he
    have hil : it < s.heap.objs.size := by obtain ⟨_, q, _⟩ := hit; exact Heap.lt_size q
    have nai : a ≠ it := fun z => by
      obtain ⟨o, ho, hc2, _⟩ := id hit
      obtain ⟨o2, ho2, hc3, _⟩ := id p
      rw [z, ho] at ho2
      cases ho2
      rw [hc2] at hc3
      exact absurd hc3 (by simp)
    have nea : e ≠ a := fun z => by
      obtain ⟨o2, ho2, hc3, _⟩ := id p
      rw [← z, show s.heap.get? e = _ from he] at ho2
      cases ho2
      exact absurd hc3 (by simp)
    have hn : i < its.toArray.size := by
      have h1 := rv.length
      have := (List.getElem?_eq_some_iff.1 hx).1
      simp; omega
    refine wpAny_pyNext_enum_itemD (Draws.tuple (A := X.A.in1) (I.ok.hd hc) it a nai its.toArray) he ⟨hit, p⟩ hn hne (by simp [hne, nea]) fun u h' tk hu ho st' hT hsz hk => ?_
    obtain ⟨u', hu', ru⟩ := rv.get hx
    have eu : u = u' := by
      have : its[i]? = some u := by simpa using hu
      rw [hu'] at this
      exact (Option.some.inj this).symm
    subst eu
    refine ⟨_, rfl, wpAny_letOwnedTupleGo_enum (s := { s with heap := h', toks := tk + 1 }) ho fun h'' he' sb => ?_⟩
    have hT2 := (sb.2 s.heap.objs.size (Nat.ne_of_gt hel)).trans hT
    have new : ObjOk X.prog X.w (upd H s.heap.objs.size (.tup [.int (i : Nat), x])) h'' s.heap.objs.size (.tup [.int (i : Nat), x]) :=
      ⟨by show 2 ≤ sizeLine; decide, [.int i tk, u], .cons ⟨_, rfl⟩ (.cons ru .nil), ⟨_, hT2, rfl, _, rfl⟩⟩
    have I1 : Inv X pins σ (upd H s.heap.objs.size (.tup [.int (i : Nat), x])) { s with heap := h'', toks := tk + 1 } :=
      I.turnedNew (ch := [e, it]) (fun b ob hb q => (sb.2 b (fun z => hb (by simp [z]))).trans (hk b ob (fun z => hb (by simp [z])) (fun z => hb (by simp [z])) q)) hf (Nat.le_refl _) new
    refine ⟨.ref s.heap.objs.size, _, I1, rfl, ⟨_, x, rfl, I.hok.fresh (Nat.le_refl _), rfl, hx⟩, ⟨⟨u, ?_⟩, st'.1.at fun o q => (sb.2 it (Ne.symm hne)).trans q, hne, hlt⟩, fun b hb => ?_⟩
    · rw [show ((i + 1 : Nat) : Int) = (i : Int) + 1 by omega]
      exact he'
    · have hb' : b < s.heap.objs.size := by
        rcases (show b = e ∨ b = it by simpa using hb) with z | z <;> (rw [z]; assumption)
      rw [upd_ne (Nat.ne_of_lt hb')]
      exact (hf b hb).1
  done := by
    intro X hP hw hK hc i pins s σ H E I hf st hg
    subst hP hw hK
    obtain ⟨⟨old, he⟩, hit, hne, hle⟩ := st
    obtain ⟨hq, hge⟩ := hg
    obtain ⟨its, rv, p, hz⟩ := I.tuple hq
    obtain ⟨f0, f1, f2, f3, f4, f5⟩ := hf it (by simp)
    have nai : a ≠ it := fun z => by
      obtain ⟨o, ho, hc2, _⟩ := id hit
      obtain ⟨o2, ho2, hc3, _⟩ := id p
      rw [z, ho] at ho2
      cases ho2
      rw [hc2] at hc3
      exact absurd hc3 (by simp)
    have en : i = its.toArray.size := by
      have := rv.length
      simp; omega
    subst en
    exact wpAny_pyNext_enum_endD (Draws.tuple (A := X.A.in1) (I.ok.hd hc) it a nai its.toArray) he ⟨hit, p⟩ fun h' eb => ⟨rfl, I.turned (t' := s.toks) (fun b o hb q => eb b o hb q) f0 f1 f3 f4 f5⟩
  self := fun A i s Q E st h => let ⟨⟨_, he⟩, _⟩ := st; wpAny_pyIter_enum he h
def iEnumT (K : PySem.W.Frag) (ta : TA) : TI := fun σ H R => ta σ H fun vs H1 => ∃ a xs, vs = [.ref a] ∧ SqT K H1 a xs ∧ R (ItT K a xs) H1
theorem pi_enumT {X : Cx} {e : Expr} {ta : TA} {p pos tpos : Pos} {elts : List Expr} {kk : Nat} (hg : Gl X "enumerate") (hm : X.mg "enumerate" = none) (ha : PA X [e] ta) (hs : starEach [e] X.env = [(false, eval e X.env)] := by rfl) :
    PI X (.Tuple elts kk tpos) (.Call (.Name "enumerate" p) [e] [] pos) (iEnumT X.K ta) := ⟨fun pins s σ H R I h => by
  refine Call_ (ld_blt I hg hm boot_enumerate (PyProof.Rows.callWith_type1 (thn (ha.run pos pins s σ H _ I h) fun us s1 ⟨vs, H1, I1, r1, a, xs, ex, hq, q⟩ => ?_) hs rfl))
  subst ex
  obtain rfl := Vals.ref1 r1
  obtain ⟨its, rv, p', hz⟩ := I1.tuple hq
  refine call_enum1 (begins_tuple a its.toArray) p' fun h' he hit hk => wpAny_pyIter_enum he ?_
  have I2 : Inv X pins σ H1 { s1 with heap := h' } := I1.kept (t' := s1.toks) hk
  refine ⟨s1.heap.objs.size + 1, [s1.heap.objs.size + 1, s1.heap.objs.size], _, ItT X.K a xs, H1, rfl, I2, turn_enumT a (s1.heap.objs.size + 1) s1.heap.objs.size xs, ⟨⟨.none, he⟩, ⟨_, hit, rfl, rfl⟩, Nat.succ_ne_self _, Nat.zero_le _⟩, fun b hb => ?_, q⟩
  have hle : s1.heap.objs.size ≤ b := by
    rcases (show b = s1.heap.objs.size + 1 ∨ b = s1.heap.objs.size by simpa using hb) with z | z <;> (rw [z]; first | exact Nat.le_refl _ | exact Nat.le_add_right _ _)
  exact I1.fpOk hle (I1.hok.fresh hle)⟩
theorem walk_enumT {K : PySem.W.Frag} {a : Addr} {xs : List V} : Walk (ItT K a xs) xs.length (fun H => SqT K H a xs) (YPair (fun i => some (.int (i : Nat))) (fun i => xs[i]?)) :=
  ⟨fun i _ hi q => ⟨q, hi⟩, fun _ q => ⟨q, Nat.le_refl _⟩, fun i H v H' _ q ⟨T, x, h1, h2, h3, h4⟩ => ⟨T, .int (i : Nat), x, h1, h2, h3, rfl, h4⟩⟩
end Pr


set_option Elab.async false
set_option linter.all false
set_option maxRecDepth 100000
namespace Pr
open PySem PySem.Spec PyProof.Rows L2
section
variable {X : Cx}
/-- sorted(d.keys()), the keys tuples of ints -/
def rSortedKeysT : List V → Hp → VK → Prop := fun vs H Q => ∃ (p a : Addr) (kvs : List (List Key × V)) (Ss : List (List Int)), vs = [.ref p] ∧ H p = some (keysO a p) ∧ H a = some (.dT kvs) ∧ kvs.map (·.1) = Ss.map (fun S => S.map Sum.inl) ∧
  ((∀ S ∈ Ss, S ≠ []) ∨ Ss = [[]]) ∧ ∀ (ys : List V) (l : Addr), ys.length = Ss.length → (∀ y ∈ ys, ∃ b S, y = .ref b ∧ S ∈ Ss ∧ H b = some (.tup (S.map V.int))) → H l = none → Q (.ref l) (upd H l (.lst ys))
theorem cr_sortedKeysT (hc : X.calm = true) (hu : X.A.units + 64 < cLine) : CallR X (.builtin "sorted") rSortedKeysT := fun pins s σ H vs us Q I r h => by
  obtain ⟨p, a, kvs, Ss, rfl, hp, ha, hks, hne, q⟩ := h
  rw [Vals.ref1 r]
  have view : PySem.W.KdlKeysView s.heap p a := (show ObjOk X.prog X.w H s.heap p (keysO a p) from I.hok p _ hp).1
  obtain ⟨hz, hd, xs, rel, o, es, ep, ho, hx, hdat, hes, his, hn⟩ := dt_of I.hok ha
  obtain ⟨bs, b1, b2, b3⟩ := keys_at rel hks
  have lk : kvs.length = xs.length := Paired.length rel
  have le : es.size = xs.length := by
    rw [← Array.length_toList, hes, List.length_map]
  have lb : bs.length = xs.length := by
    have := congrArg List.length b1
    simpa using this
  have lS : Ss.length = bs.length := by rw [← b2, List.length_map]
  have hL : bs.length ≤ sizeLine := by omega
  refine sorted_by fun E1 => PySem.W.kdu_collect (P := fun i v => ∃ hi : i < es.size, v = es[i].key) KdlSrc.rawKeys (I.ok.hd hc) ⟨view, ⟨o, ho, hx, hdat⟩⟩ (by omega) fun h1 tk acc k1 hacc => ?_
  have eacc : acc.toList = bs.map fun p => Value.ref p.1 := by
    refine List.ext_getElem? fun i => ?_
    by_cases hi : i < acc.size
    · obtain ⟨hi2, e2⟩ := hacc.2 i acc[i] (by simp [hi])
      have e3 : es[i].key = Value.ref (xs[i]'(by omega)).2.1 := by
        have : es.toList[i]? = (xs.map (entryOfKey (tupleKind (mixKind X.prog X.w))))[i]? := by rw [hes]
        rw [List.getElem?_map, List.getElem?_eq_getElem (show i < xs.length by omega), List.getElem?_eq_getElem (by simpa using hi2)] at this
        have := Option.some.inj this
        rw [Array.getElem_toList] at this
        rw [this]
        rfl
      have e4 : (bs[i]'(by omega)).1 = (xs[i]'(by omega)).2.1 := by
        have : (bs.map (·.1))[i]? = (xs.map (·.2.1))[i]? := by rw [b1]
        rw [List.getElem?_map, List.getElem?_map, List.getElem?_eq_getElem (show i < xs.length by omega), List.getElem?_eq_getElem (show i < bs.length by omega)] at this
        exact Option.some.inj this
      rw [List.getElem?_map, List.getElem?_eq_getElem (show i < bs.length by omega), List.getElem?_eq_getElem (by simpa using hi), Array.getElem_toList, e2, e3, ← e4]
      rfl
    · have := hacc.1
      rw [List.getElem?_eq_none (by simp; omega), List.getElem?_eq_none (by simp; omega)]
  have I1 : Inv X pins σ H { s with heap := h1, toks := tk } := I.kept (t' := tk) k1
  refine ⟨by rw [eacc, List.length_map]; exact hL, fun E2 => ?_⟩
  have hoL : (h1.push (seqObj "list" acc.toList.toArray 0)).get? h1.objs.size = some (seqObj "list" (bs.map fun p => Value.ref p.1).toArray 0) := by
    rw [eacc]
    exact Heap.get?_push_size _ rfl
  show wpAny _ _ (call (Value.builtin "list.sort") [Value.ref h1.objs.size]) _ _ { s with heap := h1.push (seqObj "list" acc.toList.toArray 0), toks := tk }
  have hu1 : X.A.in1.units = X.A.units + 1 := rfl
  refine sort_keys (s := { s with heap := h1.push (seqObj "list" acc.toList.toArray 0), toks := tk }) (bs := bs) (by omega) hoL (fun p hp => ?_) ?_ hL fun out l1 l2 => ?_
  · obtain ⟨its, rv, tp, _⟩ := I1.tuple (SqT.of (b3 p hp))
    exact ⟨its, let ⟨u, e, r⟩ := tp; ⟨u, Heap.get?_push_of_some _ e, r⟩, rv.ints⟩
  · rcases hne with hne | hne
    · exact .inl fun p hp => hne _ (by rw [← b2]; exact List.mem_map.2 ⟨p, hp, rfl⟩)
    · exact .inr (b2.trans hne)
  · obtain ⟨ec, he⟩ := sortedHeap_at (vs := bs.map fun p => Value.ref p.1) (out := out.toArray) hoL
    have vals : ∀ out : List Value, (∀ v ∈ out, ∃ p ∈ bs, v = Value.ref p.1) → ∃ ys : List V, Vals ys out ∧ ys.length = out.length ∧ ∀ y ∈ ys, ∃ b S, y = .ref b ∧ S ∈ Ss ∧ H b = some (.tup (S.map V.int)) := by
      intro out
      induction out with
      | nil => intro _; exact ⟨[], .nil, rfl, fun y hy => by cases hy⟩
      | cons v r ih =>
        intro z
        obtain ⟨ys, y1, y2, y3⟩ := ih fun u hu => z u (List.mem_cons_of_mem _ hu)
        obtain ⟨p, hp, rfl⟩ := z v List.mem_cons_self
        refine ⟨.ref p.1 :: ys, .cons rfl y1, by simp [y2], fun y hy => ?_⟩
        rcases List.mem_cons.1 hy with e | hy
        · exact ⟨p.1, p.2, e, by rw [← b2]; exact List.mem_map.2 ⟨p, hp, rfl⟩, b3 p hp⟩
        · exact y3 y hy
    obtain ⟨ys, y1, y2, y3⟩ := vals out l2
    have hk : ∀ b u, h1.get? b = some u → (sortedHeap (h1.push (seqObj "list" acc.toList.toArray 0)) h1.objs.size (bs.map fun p => Value.ref p.1) out.toArray).get? b = some u := fun b u q1 => by
      have lt := Heap.lt_size q1
      rw [sortedHeap_old (Nat.ne_of_lt lt) (by rw [size_push']; exact Nat.lt_succ_of_lt lt)]
      exact Heap.get?_push_of_some _ q1
    exact ⟨.ref h1.objs.size, upd H h1.objs.size (.lst ys), I1.laid (t' := tk) hk (Nat.le_refl _) ⟨by rw [y2, l1]; exact hL, out, ec, y1, he⟩, rfl, q ys _ (by rw [y2, l1, lS]) y3 (I1.hok.fresh (Nat.le_refl _))⟩
/-- for k in d.keys(), d locked, its keys tuples -/
def iKeysMT (td : TE) : TI := fun σ H R => td σ H fun x H1 => ∃ d o kvs, x = .ref d ∧ H1 d = some (.frz o (.dT kvs)) ∧ R (Itkt d o kvs) H1
theorem pi_keysMT {tg e : Expr} {td : TE} {apos cpos : Pos} (he : PE X e td) (hbase : attributeBase e "keys" X.env (eval e X.env) = eval e X.env := by rfl) (hline : (apos.endLine == cpos.line) = true := by rfl) :
    PI X tg (.Call (.Attribute e "keys" apos) [] [] cpos) (iKeysMT td) := ⟨fun pins s σ H R I h => by
  refine wpAny_Call_method (T := "dict") (id := "dict.keys") hbase rfl hline PySem.F.plainAttrs_dict PySem.F.slot_dict_keys PySem.F.type_dict_keys (thn (he.run pins s σ H _ I h) fun u s1 ⟨x, H1, I1, rx, d, o, kvs, ex, hd, q⟩ => ?_)
  subst ex
  obtain rfl : u = Value.ref d := rx
  obtain ⟨hs, hgd, hx, es, ep, hdt, hsz, ent⟩ := I1.frzT hd
  have raw : s1.heap.DictRaw d es ep := ⟨o, hgd, hx, hdt⟩
  refine ⟨raw.typeIs, fun b e2 => ?_, ?_⟩
  · cases e2
    exact ⟨o, hgd, hx.2.1⟩
  · show wpAny _ _ (callWith cpos (.builtin "dict.keys") [.ref d] [] []) _ X.xe s1
    refine method_meetsIn PySem.F.slot_dict_keys PySem.F.entry_dict_keys rfl (PySem.evalArgs_none ⟨rfl, raw.typeIs, PySem.F.args_dict_keys_1 _, _, meets_dict_keys_raw d hs, ⟨es, ep, raw⟩, ?_⟩)
    have I2 : Inv X pins σ H1 { s1 with heap := s1.heap.push { cls := .type "dict_keys", data := .fields #[.ref d] } } := I1.kept (t' := s1.toks) fun b ob q => Heap.get?_push_of_some _ q
    have at1 : (s1.heap.push { cls := .type "dict_keys", data := .fields #[.ref d] }).get? d = some o := Heap.get?_push_of_some _ hgd
    refine wpAny_pyIter_keys_raw (s := { s1 with heap := s1.heap.push { cls := .type "dict_keys", data := .fields #[.ref d] } }) ⟨_, Heap.get?_push_size _ rfl, rfl, rfl⟩ ⟨o, at1, hx, hdt⟩ (pi_one (tk := s1.toks) I2 _ (turn_keysT _ hdt) ⟨_, Heap.get?_push_size _ rfl, rfl, ?_⟩ q)
    rw [hsz]
    rfl⟩
end
end Pr


set_option Elab.async false
set_option linter.all false
set_option maxRecDepth 100000
namespace Pr
open PySem PySem.Spec PyProof.Rows L2
section
variable {P : Program} {w : World} {A : Around} {E : Value → Shared → Prop} {s : Shared}
/-- an empty set, as set.__new__ makes it -/
abbrev set0 (w : World) : Obj := { cls := .type "set", dict := none, data := .set #[] 0 (.fresh 0 0 (!w.params.followText "set-order")) }
set_option maxHeartbeats 3200000 in
/-- a call of a built-in class by the codes of its two special methods -/
theorem callType_two {T newId initId : String} {args : List Value} {Q Q1 : Value → Shared → Prop} (ft : TypeCalled T newId initId) (hct : checkTypeCall T ⟨args, []⟩ = pure ())
    (hnew : codeAny (model P w) A.in1 (.call (.builtin newId) ⟨.type T :: args, []⟩) (wants Q1 E) s)
    (hinit : ∀ obj s1, Q1 obj s1 → s1.TypeIs obj T ∧ codeAny (model P w) A.in1 (.call (.builtin initId) ⟨obj :: args, []⟩) (wants (fun r s2 => r = .none ∧ Q obj s2) E) s1) :
    wpAny (model P w) A (call (.type T) args) Q E s := by
  obtain ⟨c, tl, hmro⟩ := ft.mro
  have m1 := ft.made
  have m2 := ft.sub
  have m3 := ft.notType
  have m4 := ft.canCreate
  refine wpAny_call (codeAny_of_tree (show wpAny _ _ (callAny (.type T) _) _ _ _ from wpAny_pure ⟨Code.quiet_builtin _ (by decide +kernel), codeAny_builtin F.entry_type_call ?_⟩))
  rw [Around.under_plain (weight_type_call_type T args []) rfl]
  repeat (any_goals (first | assumption | wp_step))
  refine codeAny_mono hnew fun r s1 hr => ?_
  match r, hr with
  | .ok (.ret obj), hr =>
    obtain ⟨hT, hi⟩ := hinit _ _ hr
    have m5 := ft.init.lookup
    have m6 := ft.init.bind obj
    repeat (any_goals (first | assumption | wp_step))
    refine codeAny_mono hi fun r2 s2 hr2 => ?_
    match r2, hr2 with
    | .ok (.ret r), hr2 =>
      obtain ⟨rfl, hq⟩ := hr2
      repeat (any_goals (first | assumption | wp_step))
    | .error e, hr2 => exact hr2
    | .ok .next, hr2 => exact hr2.elim
    | .ok .brk, hr2 => exact hr2.elim
    | .ok .cont, hr2 => exact hr2.elim
  | .error e, hr => exact hr
  | .ok .next, hr => exact hr.elim
  | .ok .brk, hr => exact hr.elim
  | .ok .cont, hr => exact hr.elim
set_option maxHeartbeats 3200000 in
/-- set(xs), xs a list of ints -/
theorem call_set_listR {l : Addr} {items : Array Value} (ns : List Int) {Q : Value → Shared → Prop} (hh : A.handled = none) (hl : s.heap.IsList l items) (hit : IntsAre items.toList ns) (hb : ns.length + 1 < scanBound)
    (h : ∀ (h' : Heap) (tk c : Nat), SetR w h' s.heap.objs.size (fun j => decide (j ∈ ns)) c → c ≤ ns.length → (∀ b o, s.heap.get? b = some o → h'.get? b = some o) → Q (.ref s.heap.objs.size) { s with heap := h', toks := tk }) :
    wpAny (model P w) A (call (.type "set") [.ref l]) Q E s := by
  have isz : items.size = ns.length := by
    have q := IntsAre.length hit
    rwa [Array.length_toList] at q
  obtain ⟨⟨ocls, odict, odata, oslots⟩, hol, hcl, nl, hdl⟩ := id hl
  simp only at hcl hdl
  subst hcl hdl
  have lS : l < s.heap.objs.size := Heap.lt_size hol
  refine callType_two (Q1 := fun obj s1 => obj = .ref s.heap.objs.size ∧ s1 = { s with heap := s.heap.push (set0 w) }) F.called_set (F.typeCall_set_1 (.ref l)) (code_set_led1 (.ref l) ⟨rfl, rfl⟩) fun obj s1 ⟨e1, e2⟩ => ?_
  subst e1 e2
  have hS : (s.heap.push (set0 w)).get? s.heap.objs.size = some (set0 w) := Heap.get?_push_size _ rfl
  have hT : Shared.TypeIs { s with heap := s.heap.push (set0 w) } (.ref s.heap.objs.size) "set" := ⟨_, hS, rfl⟩
  have hl1 : (s.heap.push (set0 w)).IsList l items := hl.push _
  have hol1 : (s.heap.push (set0 w)).get? l = some ⟨.type "list", odict, .seq items nl, oslots⟩ := Heap.get?_push_of_some _ hol
  refine ⟨hT, codeAny_call_builtin F.called_set.init.plain F.entry_set_init (check_set_init_1 hT ?_)⟩
  have no1 := F.sub_list_set
  have no2 := F.sub_list_frozenset
  have no3 : (Value.type "list" == Value.type "dict") = false := by decide
  unfold Builtin.«set.__init__» noKeywords Builtin.Frozenset.updateFrom
  generalize hPI : pyIter = PI
  wp_walk
  subst hPI
  refine wpAny_pyIter_list hl1 (wpAny_bind (wpAny_runValue ?_))
  have hz : (s.heap.push (set0 w)).objs.size = s.heap.objs.size + 1 := Heap.size_push ..
  have nI : l ≠ (s.heap.push (set0 w)).objs.size := by rw [hz]; exact Nat.ne_of_lt (Nat.lt_succ_of_lt lS)
  have nS : s.heap.objs.size ∉ [(s.heap.push (set0 w)).objs.size, l] := by
    simp only [List.mem_cons, List.not_mem_nil, or_false, not_or, hz]
    exact ⟨Nat.ne_of_lt (Nat.lt_succ_self _), Nat.ne_of_gt lS⟩
  refine set_update_ints ((Walks.list (A := A.in1.in1.in1) (by simp [hh]) _ l nI items).toS) s.heap.objs.size nS ns isz hb (fun i v hv => ?_) (items.size - 0) 0 _ (by omega) (Nat.zero_le _)
    ⟨⟨_, Heap.get?_push_size _ rfl, rfl, rfl⟩, hl1.push _⟩ ⟨0, Nat.le_refl 0, setR_new_at (Heap.get?_push_of_some _ hS)⟩ fun s2 c2 mv hc2 hS2 => ?_
  · have hi : i < ns.length := by rw [← isz]; exact (Array.getElem?_eq_some_iff.mp hv).1
    obtain ⟨t, e⟩ := PyProof.Rows.IntsAre.int_at hit i v (by rw [Array.getElem?_toList]; exact hv)
    refine ⟨ns[i], t, List.getElem?_eq_getElem hi, ?_⟩
    rw [e, List.getD_eq_getElem?_getD, List.getElem?_eq_getElem hi]
    rfl
  · obtain ⟨h2, g2, d2, t2, o2⟩ := s2
    have eg : g2 = s.gens := mv.gens
    have ed : d2 = s.drawn := mv.drawn
    have eo : o2 = s.os := mv.os
    subst eg ed eo
    show wpAny _ _ _ _ _ _
    refine wpAny_pure ?_
    show wpAny _ _ (ret Value.none) _ _ _
    refine wpAny_pure ⟨rfl, h h2 t2 c2 hS2 (by omega) fun b o e => ?_⟩
    have lt := Heap.lt_size e
    refine mv.heap b o ?_ (Heap.get?_push_of_some _ (Heap.get?_push_of_some _ e))
    simp only [List.mem_cons, List.not_mem_nil, or_false, not_or, hz]
    exact ⟨Nat.ne_of_lt lt, Nat.ne_of_lt (Nat.lt_succ_of_lt lt)⟩
section
variable {X : Cx}
/-- set(xs), xs a list of ints -/
def rSetOfI (K : PySem.W.Frag) (w : World) : List V → Hp → VK → Prop := fun xs H Q => ∃ (l : Addr) (ns : List Int), xs = [V.ref l] ∧ SqL K H l (ns.map V.int) ∧ ns.length ≤ 1000 ∧
  ∀ (a : Addr) (c : Nat), c ≤ ns.length → H a = none → Q (.ref a) (upd H a (SetO w a (fun j => decide (j ∈ ns)) c))
theorem cr_setOfI (hc : X.calm = true) : CallR X (.type "set") (rSetOfI X.K X.w) := fun pins s σ H xs us Q I r q => by
  obtain ⟨l, ns, rfl, hq, h1, q⟩ := q
  rw [Vals.ref1 r]
  obtain ⟨its, rv, pl, hz⟩ := I.list hq
  refine call_set_listR ns (I.ok.hd hc) pl.isList (by simpa using rv.ints) (by unfold scanBound; omega) fun h' tk c R hc2 hk => ?_
  exact ⟨.ref s.heap.objs.size, _, I.laid (t' := tk) hk (Nat.le_refl _) (setO_new R), rfl, q _ c hc2 (I.hok.fresh (Nat.le_refl _))⟩
end
end
end Pr


set_option linter.all false
namespace Pl
/-! ### ascending lists -/
abbrev Asc (l : List Int) : Prop := l.Pairwise (· < ·)
theorem asc_ext : ∀ {l l' : List Int}, Asc l → Asc l' → (∀ x, x ∈ l ↔ x ∈ l') → l = l'
  | [], [], _, _, _ => rfl
  | [], b :: r, _, _, h => by
    have := (h b).2 List.mem_cons_self
    cases this
  | a :: r, [], _, _, h => by
    have := (h a).1 List.mem_cons_self
    cases this
  | a :: r, b :: r', h1, h2, h => by
    obtain ⟨a1, a2⟩ := List.pairwise_cons.1 h1
    obtain ⟨b1, b2⟩ := List.pairwise_cons.1 h2
    have e : a = b := by
      have m1 := (h a).1 List.mem_cons_self
      have m2 := (h b).2 List.mem_cons_self
      rcases List.mem_cons.1 m1 with e | m1
      · exact e
      · rcases List.mem_cons.1 m2 with e | m2
        · exact e.symm
        · have := a1 b m2
          have := b1 a m1
          omega
    subst e
    have : r = r' := asc_ext a2 b2 fun x => by
      constructor
      · intro hx
        have := (h x).1 (List.mem_cons_of_mem _ hx)
        rcases List.mem_cons.1 this with e | q
        · have := a1 x hx
          omega
        · exact q
      · intro hx
        have := (h x).2 (List.mem_cons_of_mem _ hx)
        rcases List.mem_cons.1 this with e | q
        · have := b1 x hx
          omega
        · exact q
    rw [this]
theorem asc_nodup {l : List Int} (h : Asc l) : l.Nodup := h.imp fun h e => by omega
theorem asc_of_le {l : List Int} (h : l.Pairwise (· ≤ ·)) (n : l.Nodup) : Asc l := by
  have : l.Pairwise (fun a b => a ≤ b ∧ a ≠ b) := List.pairwise_and_iff.2 ⟨h, n⟩
  exact this.imp fun h => by omega
/-- the lamps -/
def lamps (n : Nat) : List Int := (List.range n).map Int.ofNat
theorem mem_lamps {n : Nat} {x : Int} : x ∈ lamps n ↔ 0 ≤ x ∧ x < n := by
  unfold lamps
  rw [List.mem_map]
  constructor
  · rintro ⟨k, h, rfl⟩
    have := List.mem_range.1 h
    constructor
    · exact Int.natCast_nonneg k
    · exact Int.ofNat_lt.2 this
  · rintro ⟨h1, h2⟩
    refine ⟨x.toNat, List.mem_range.2 (by omega), ?_⟩
    exact Int.toNat_of_nonneg h1
theorem asc_lamps (n : Nat) : Asc (lamps n) := by
  unfold lamps
  rw [Asc, List.pairwise_map]
  exact List.pairwise_lt_range.imp fun h => Int.ofNat_lt.2 h
theorem lamps_len (n : Nat) : (lamps n).length = n := by simp [lamps]
theorem asc_filter {l : List Int} (p : Int → Bool) (h : Asc l) : Asc (l.filter p) := h.filter p
/-- an item put in -/
def ins (k : Int) : List Int → List Int
  | [] => [k]
  | a :: r => if k < a then k :: a :: r else a :: ins k r
theorem mem_ins {k x : Int} : ∀ {l : List Int}, x ∈ ins k l ↔ x = k ∨ x ∈ l
  | [] => by simp [ins]
  | a :: r => by
    unfold ins
    split
    · simp
    · simp [mem_ins (l := r)]
      constructor
      · rintro (h | h | h) <;> simp [h]
      · rintro (h | h | h) <;> simp [h]
theorem asc_ins {k : Int} : ∀ {l : List Int}, Asc l → k ∉ l → Asc (ins k l)
  | [], _, _ => by simp [ins]
  | a :: r, h, hk => by
    obtain ⟨a1, a2⟩ := List.pairwise_cons.1 h
    unfold ins
    simp only [List.mem_cons, not_or] at hk
    split
    · rename_i q
      refine List.pairwise_cons.2 ⟨fun b hb => ?_, h⟩
      rcases List.mem_cons.1 hb with e | hb
      · omega
      · have := a1 b hb
        omega
    · rename_i q
      refine List.pairwise_cons.2 ⟨fun b hb => ?_, asc_ins a2 hk.2⟩
      rcases mem_ins.1 hb with e | hb
      · have := hk.1
        omega
      · exact a1 b hb
/-! ### standings and deeds -/
structure St (n : Nat) (S : List Int) : Prop where
  asc : Asc S
  mem : ∀ x ∈ S, 0 ≤ x ∧ x < n
/-- one lamp changed -/
def chg (S : List Int) (k : Int) : List Int := if k ∈ S then S.filter (fun j => decide (j ≠ k)) else ins k S
theorem mem_chg {S : List Int} {k x : Int} : x ∈ chg S k ↔ (x ∈ S ∧ x ≠ k) ∨ (k ∉ S ∧ x = k) := by
  unfold chg
  by_cases h : k ∈ S
  · rw [if_pos h]; simp [h]
  · rw [if_neg h, mem_ins]
    constructor
    · rintro (e | e)
      · exact .inr ⟨h, e⟩
      · refine .inl ⟨e, fun q => h (q ▸ e)⟩
    · rintro (⟨a, b⟩ | ⟨a, b⟩)
      · exact .inr a
      · exact .inl b
theorem asc_chg {S : List Int} (h : Asc S) (k : Int) : Asc (chg S k) := by
  unfold chg
  split
  · exact h.filter _
  · rename_i q
    exact asc_ins h q
theorem St.chg {n : Nat} {S : List Int} (h : St n S) {k : Int} (hk : 0 ≤ k ∧ k < n) : St n (chg S k) := by
  refine ⟨asc_chg h.asc k, fun x hx => ?_⟩
  rcases mem_chg.1 hx with ⟨a, _⟩ | ⟨_, b⟩
  · exact h.mem x a
  · rw [b]; exact hk
theorem chg_chg {S : List Int} (h : Asc S) (k : Int) : chg (chg S k) k = S := by
  refine asc_ext (asc_chg (asc_chg h k) k) h fun x => ?_
  rw [mem_chg, mem_chg, mem_chg]
  by_cases hx : x = k
  · subst hx
    by_cases hk : x ∈ S <;> simp [hk]
  · simp [hx]
theorem chg_inj {S : List Int} {j k : Int} (e : chg S j = chg S k) : j = k := by
  have h : ∀ x, x ∈ chg S j ↔ x ∈ chg S k := fun x => by rw [e]
  have := h j
  rw [mem_chg, mem_chg] at this
  by_cases hjk : j = k
  · exact hjk
  · by_cases hj : j ∈ S <;> simp [hj, hjk] at this
/-- a web's arrows as a test -/
structure WebOk (n : Nat) (E : Int → Int → Bool) : Prop where
  mem : ∀ x y, E x y = true → (0 ≤ x ∧ x < n) ∧ (0 ≤ y ∧ y < n)
  ne : ∀ x y, E x y = true → x ≠ y
def rev (E : Int → Int → Bool) : Int → Int → Bool := fun x y => E y x
theorem WebOk.rev {n : Nat} {E : Int → Int → Bool} (h : WebOk n E) : WebOk n (rev E) := ⟨fun x y e => (h.mem y x e).symm, fun x y e => (h.ne y x e).symm⟩
/-- can a deed be done on a lamp -/
def can (E : Int → Int → Bool) (S : List Int) (k : Int) : Bool := if k ∈ S then S.any (fun j => E k j) else S.any (fun j => E j k)
theorem can_mem {n : Nat} {E : Int → Int → Bool} (w : WebOk n E) {S : List Int} {k : Int} (h : can E S k = true) : 0 ≤ k ∧ k < n := by
  unfold can at h
  split at h
  · obtain ⟨j, _, e⟩ := List.any_eq_true.1 h
    exact (w.mem _ _ e).1
  · obtain ⟨j, _, e⟩ := List.any_eq_true.1 h
    exact (w.mem _ _ e).2
theorem can_rev {n : Nat} {E : Int → Int → Bool} (w : WebOk n E) {S : List Int} {k : Int} (h : can E S k = true) : can (rev E) (chg S k) k = true := by
  unfold can at h ⊢
  by_cases hk : k ∈ S
  · rw [if_pos hk] at h
    have hk' : k ∉ chg S k := fun q => by
      rcases mem_chg.1 q with ⟨_, b⟩ | ⟨a, _⟩
      · exact b rfl
      · exact a hk
    rw [if_neg hk']
    obtain ⟨j, hj, e⟩ := List.any_eq_true.1 h
    exact List.any_eq_true.2 ⟨j, mem_chg.2 (.inl ⟨hj, (w.ne _ _ e).symm⟩), e⟩
  · rw [if_neg hk] at h
    have hk' : k ∈ chg S k := mem_chg.2 (.inr ⟨hk, rfl⟩)
    rw [if_pos hk']
    obtain ⟨j, hj, e⟩ := List.any_eq_true.1 h
    exact List.any_eq_true.2 ⟨j, mem_chg.2 (.inl ⟨hj, w.ne _ _ e⟩), e⟩
def doable (n : Nat) (E : Int → Int → Bool) (S : List Int) : List Int := (lamps n).filter (can E S)
theorem mem_doable {n : Nat} {E : Int → Int → Bool} (w : WebOk n E) {S : List Int} {k : Int} : k ∈ doable n E S ↔ can E S k = true := by
  unfold doable
  rw [List.mem_filter, mem_lamps]
  exact ⟨fun h => h.2, fun h => ⟨can_mem w h, h⟩⟩
theorem asc_doable (n : Nat) (E : Int → Int → Bool) (S : List Int) : Asc (doable n E S) := (asc_lamps n).filter _
/-! ### words -/
/-- a word leads from one standing to another one -/
def Leads (E : Int → Int → Bool) : List Int → List Int → List Int → Prop
  | S, [], T => S = T
  | S, k :: w, T => can E S k = true ∧ Leads E (chg S k) w T
theorem leads_app {E : Int → Int → Bool} : ∀ {S u v T}, Leads E S (u ++ v) T ↔ ∃ X, Leads E S u X ∧ Leads E X v T
  | S, [], v, T => by simp [Leads]
  | S, k :: u, v, T => by
    simp only [List.cons_append, Leads]
    rw [leads_app (u := u)]
    constructor
    · rintro ⟨h, X, a, b⟩
      exact ⟨X, ⟨h, a⟩, b⟩
    · rintro ⟨X, ⟨h, a⟩, b⟩
      exact ⟨h, X, a, b⟩
theorem leads_snoc {E : Int → Int → Bool} {S u k T} : Leads E S (u ++ [k]) T ↔ ∃ X, Leads E S u X ∧ can E X k = true ∧ chg X k = T := by
  rw [leads_app]
  simp [Leads]
theorem leads_det {E : Int → Int → Bool} : ∀ {S w T T'}, Leads E S w T → Leads E S w T' → T = T'
  | _, [], _, _, a, b => a.symm.trans b
  | _, _ :: w, _, _, a, b => leads_det (w := w) a.2 b.2
theorem leads_st {n : Nat} {E : Int → Int → Bool} (W : WebOk n E) : ∀ {S w T}, St n S → Leads E S w T → St n T
  | _, [], _, h, e => by cases e; exact h
  | _, _ :: w, _, h, e => leads_st W (w := w) (h.chg (can_mem W e.1)) e.2
theorem leads_rev {n : Nat} {E : Int → Int → Bool} (W : WebOk n E) : ∀ {w S T}, St n S → Leads E S w T → Leads (rev E) T w.reverse S
  | [], _, _, _, e => Eq.symm e
  | k :: w, S, T, h, e => by
    rw [List.reverse_cons, leads_snoc]
    exact ⟨chg S k, leads_rev W (h.chg (can_mem W e.1)) e.2, can_rev W e.1, chg_chg h.asc k⟩
theorem leads_rev' {n : Nat} {E : Int → Int → Bool} (W : WebOk n E) {w S T} (hT : St n T) (h : Leads (rev E) T w S) : Leads E S w.reverse T := leads_rev (E := rev E) W.rev hT h
def Reach (E : Int → Int → Bool) (S T : List Int) : Prop := ∃ w, Leads E S w T
structure IsDist (E : Int → Int → Bool) (S T : List Int) (m : Nat) : Prop where
  ex : ∃ w, w.length = m ∧ Leads E S w T
  le : ∀ w, Leads E S w T → m ≤ w.length
theorem IsDist.uniq {E : Int → Int → Bool} {S T : List Int} {m m' : Nat} (a : IsDist E S T m) (b : IsDist E S T m') : m = m' := by
  obtain ⟨w, e, h⟩ := a.ex
  obtain ⟨w', e', h'⟩ := b.ex
  have := a.le _ h'
  have := b.le _ h
  omega
theorem dist_of_reach {E : Int → Int → Bool} {S T : List Int} (h : Reach E S T) : ∃ m, IsDist E S T m := by
  obtain ⟨w, hw⟩ := h
  have key : ∀ N : Nat, ∀ w, w.length ≤ N → Leads E S w T → ∃ m, IsDist E S T m := by
    intro N
    induction N with
    | zero =>
      intro w h0 hw
      exact ⟨0, ⟨w, by omega, hw⟩, fun _ _ => Nat.zero_le _⟩
    | succ N ih =>
      intro w h0 hw
      by_cases q : ∃ w', Leads E S w' T ∧ w'.length < w.length
      · obtain ⟨w', h1, h2⟩ := q
        exact ih w' (by omega) h1
      · refine ⟨w.length, ⟨w, rfl, hw⟩, fun w' h' => ?_⟩
        refine Nat.le_of_not_lt fun z => q ⟨w', h', z⟩
  exact key _ w (Nat.le_refl _) hw
theorem IsDist.reach {E : Int → Int → Bool} {S T : List Int} {m : Nat} (h : IsDist E S T m) : Reach E S T := let ⟨w, _, h⟩ := h.ex; ⟨w, h⟩
theorem dist_self (E : Int → Int → Bool) (S : List Int) : IsDist E S S 0 := ⟨⟨[], rfl, rfl⟩, fun _ _ => Nat.zero_le _⟩
theorem dist_zero {E : Int → Int → Bool} {S T : List Int} (h : IsDist E S T 0) : S = T := by
  obtain ⟨w, e, h⟩ := h.ex
  cases w with
  | nil => exact h
  | cons a r => simp at e
theorem dist_rev {n : Nat} {E : Int → Int → Bool} (W : WebOk n E) {S T : List Int} (hS : St n S) (hT : St n T) {m : Nat} (h : IsDist (rev E) T S m) : IsDist E S T m := by
  obtain ⟨w, e, h1⟩ := h.ex
  refine ⟨⟨w.reverse, by simpa using e, leads_rev' W hT h1⟩, fun w' h' => ?_⟩
  have := h.le _ (leads_rev W hS h')
  simpa using this
/-- one deed on: at most one more -/
theorem dist_step {E : Int → Int → Bool} {S X : List Int} {m : Nat} (h : IsDist E S X m) {k : Int} (hk : can E X k = true) : ∃ d, IsDist E S (chg X k) d ∧ d ≤ m + 1 := by
  obtain ⟨w, e, h1⟩ := h.ex
  have h2 : Leads E S (w ++ [k]) (chg X k) := leads_snoc.2 ⟨X, h1, hk, rfl⟩
  obtain ⟨d, hd⟩ := dist_of_reach ⟨_, h2⟩
  refine ⟨d, hd, ?_⟩
  have := hd.le _ h2
  simp at this
  omega
/-- the last deed of a shortest word -/
theorem dist_pred {E : Int → Int → Bool} {S T : List Int} {m : Nat} (h : IsDist E S T (m + 1)) : ∃ X k, IsDist E S X m ∧ can E X k = true ∧ chg X k = T := by
  obtain ⟨w, e, h1⟩ := h.ex
  have hne : w ≠ [] := fun z => by subst z; simp at e
  obtain ⟨u, k, rfl⟩ : ∃ u k, w = u ++ [k] := ⟨w.dropLast, w.getLast hne, (List.dropLast_concat_getLast hne).symm⟩
  obtain ⟨X, a, b, c⟩ := leads_snoc.1 h1
  refine ⟨X, k, ⟨⟨u, by simpa using e, a⟩, fun v hv => ?_⟩, b, c⟩
  have := h.le (v ++ [k]) (leads_snoc.2 ⟨X, hv, b, c⟩)
  simp at this
  exact this
/-- a shortest word's beginning is a shortest word -/
theorem dist_prefix {E : Int → Int → Bool} {S T X : List Int} {u v : List Int} {m : Nat} (h : IsDist E S T m) (e : (u ++ v).length = m) (h1 : Leads E S u X) (h2 : Leads E X v T) : IsDist E S X u.length := by
  refine ⟨⟨u, rfl, h1⟩, fun u' hu' => ?_⟩
  have := h.le (u' ++ v) (leads_app.2 ⟨X, hu', h2⟩)
  simp at this e
  omega
theorem dist_suffix {E : Int → Int → Bool} {S T X : List Int} {u v : List Int} {m : Nat} (h : IsDist E S T m) (e : (u ++ v).length = m) (h1 : Leads E S u X) (h2 : Leads E X v T) : IsDist E X T v.length := by
  refine ⟨⟨v, rfl, h2⟩, fun v' hv' => ?_⟩
  have := h.le (u ++ v') (leads_app.2 ⟨X, h1, hv'⟩)
  simp at this e
  omega
end Pl


set_option linter.all false
namespace Pl
/-! ### what comes from what -/
/-- arrows lead from x to y, one behind another (none at least) -/
inductive Path (E : Int → Int → Bool) (x : Int) : Int → Prop where
  | refl : Path E x x
  | tail {y z : Int} : Path E x y → E y z = true → Path E x z
theorem Path.trans {E : Int → Int → Bool} {x y z : Int} (a : Path E x y) (b : Path E y z) : Path E x z := by
  induction b with
  | refl => exact a
  | tail _ e ih => exact ih.tail e
theorem Path.head {E : Int → Int → Bool} {x y z : Int} (e : E x y = true) (b : Path E y z) : Path E x z := Path.trans (Path.tail .refl e) b
theorem Path.rev {E : Int → Int → Bool} {x y : Int} (a : Path E x y) : Path (rev E) y x := by
  induction a with
  | refl => exact .refl
  | tail _ e ih => exact Path.head (E := Pl.rev E) e ih
theorem path_rev {E : Int → Int → Bool} {x y : Int} : Path (rev E) x y ↔ Path E y x := ⟨fun h => Path.rev (E := rev E) h, Path.rev⟩
theorem Path.mem {n : Nat} {E : Int → Int → Bool} (W : WebOk n E) {x y : Int} (a : Path E x y) (h : 0 ≤ x ∧ x < n) : 0 ≤ y ∧ y < n := by
  cases a with
  | refl => exact h
  | tail _ e => exact (W.mem _ _ e).2
def Front (E : Int → Int → Bool) (S : List Int) (k : Int) : Prop := ∃ j ∈ S, Path E j k
def Back (E : Int → Int → Bool) (S : List Int) (k : Int) : Prop := ∃ j ∈ S, Path E k j
/-- the test by which the program answers -/
def Comes (E : Int → Int → Bool) (S T : List Int) : Prop := (∀ k ∈ T, Front E S k) ∧ ∀ k ∈ S, Back E T k
theorem Comes.refl (E : Int → Int → Bool) (S : List Int) : Comes E S S := ⟨fun k h => ⟨k, h, .refl⟩, fun k h => ⟨k, h, .refl⟩⟩
theorem Comes.trans {E : Int → Int → Bool} {S T U : List Int} (a : Comes E S T) (b : Comes E T U) : Comes E S U := by
  refine ⟨fun k hk => ?_, fun k hk => ?_⟩
  · obtain ⟨j, hj, p⟩ := b.1 k hk
    obtain ⟨i, hi, q⟩ := a.1 j hj
    exact ⟨i, hi, q.trans p⟩
  · obtain ⟨j, hj, p⟩ := a.2 k hk
    obtain ⟨i, hi, q⟩ := b.2 j hj
    exact ⟨i, hi, p.trans q⟩
theorem comes_one {n : Nat} {E : Int → Int → Bool} (W : WebOk n E) {S : List Int} {k : Int} (h : can E S k = true) : Comes E S (chg S k) := by
  unfold can at h
  by_cases hk : k ∈ S
  · rw [if_pos hk] at h
    obtain ⟨j, hj, e⟩ := List.any_eq_true.1 h
    refine ⟨fun x hx => ?_, fun x hx => ?_⟩
    · rcases mem_chg.1 hx with ⟨a, _⟩ | ⟨a, _⟩
      · exact ⟨x, a, .refl⟩
      · exact absurd hk a
    · by_cases q : x = k
      · subst q
        exact ⟨j, mem_chg.2 (.inl ⟨hj, (W.ne _ _ e).symm⟩), .tail .refl e⟩
      · exact ⟨x, mem_chg.2 (.inl ⟨hx, q⟩), .refl⟩
  · rw [if_neg hk] at h
    obtain ⟨j, hj, e⟩ := List.any_eq_true.1 h
    refine ⟨fun x hx => ?_, fun x hx => ?_⟩
    · rcases mem_chg.1 hx with ⟨a, _⟩ | ⟨a, b⟩
      · exact ⟨x, a, .refl⟩
      · subst b
        exact ⟨j, hj, .tail .refl e⟩
    · refine ⟨x, mem_chg.2 (.inl ⟨hx, fun q => hk (q ▸ hx)⟩), .refl⟩
theorem comes_of_leads {n : Nat} {E : Int → Int → Bool} (W : WebOk n E) : ∀ {w S T}, Leads E S w T → Comes E S T
  | [], S, T, h => by
    have e : S = T := h
    subst e
    exact Comes.refl E S
  | k :: w, S, T, h => (comes_one W h.1).trans (comes_of_leads W h.2)
/-- from inside M a lamp of M that is dark can be lit, where all lamps of M are ahead -/
theorem light_next {E : Int → Int → Bool} {S : List Int} {M : Int → Prop} (hM : ∀ p q, Front E S p → E p q = true → M q → M p) {j y : Int} (p : Path E j y) (hj : j ∈ S) (hy : y ∉ S) (hMy : M y) : ∃ x z, x ∈ S ∧ z ∉ S ∧ M z ∧ E x z = true := by
  induction p with
  | refl => exact absurd hj hy
  | @tail a b pa e ih =>
    by_cases q : a ∈ S
    · exact ⟨a, b, q, hy, hMy, e⟩
    · exact ih q (hM a b ⟨j, hj, pa⟩ e hMy)
/-- lighting alone reaches all lamps that are ahead within M -/
theorem light_all {n : Nat} {E : Int → Int → Bool} (W : WebOk n E) {M : List Int} (aM : Asc M) : ∀ (c : Nat) (S : List Int), St n S → (∀ x ∈ S, x ∈ M) → (∀ y ∈ M, Front E S y) →
    (∀ p q, E p q = true → q ∈ M → Front E S p → p ∈ M) → (M.filter fun x => decide (x ∉ S)).length = c → ∃ w, Leads E S w M
  | 0, S, hS, sub, fr, cl, hc => by
    refine ⟨[], ?_⟩
    show S = M
    refine asc_ext hS.asc aM fun x => ⟨sub x, fun hx => ?_⟩
    refine Classical.byContradiction fun q => ?_
    have e := List.eq_nil_of_length_eq_zero hc
    have : x ∈ M.filter fun x => decide (x ∉ S) := List.mem_filter.2 ⟨hx, by simpa using q⟩
    rw [e] at this
    cases this
  | c + 1, S, hS, sub, fr, cl, hc => by
    obtain ⟨y, hy⟩ : ∃ y, y ∈ M.filter fun x => decide (x ∉ S) := by
      cases e : M.filter fun x => decide (x ∉ S) with
      | nil => rw [e] at hc; simp at hc
      | cons a r => exact ⟨a, List.mem_cons_self⟩
    obtain ⟨hyM, hyS⟩ := List.mem_filter.1 hy
    have hyS : y ∉ S := by simpa using hyS
    obtain ⟨j, hj, pj⟩ := fr y hyM
    obtain ⟨x, z, hx, hz, hzM, e⟩ := light_next (M := fun q => q ∈ M) (fun p q hp e hq => cl p q e hq hp) pj hj hyS hyM
    have hcan : can E S z = true := by
      unfold can
      rw [if_neg hz]
      exact List.any_eq_true.2 ⟨x, hx, e⟩
    have hmem : ∀ t, t ∈ chg S z ↔ t ∈ S ∨ t = z := fun t => by
      rw [mem_chg]
      constructor
      · rintro (⟨a, _⟩ | ⟨_, b⟩)
        · exact .inl a
        · exact .inr b
      · rintro (a | b)
        · exact .inl ⟨a, fun q => hz (q ▸ a)⟩
        · exact .inr ⟨hz, b⟩
    have fsub : ∀ t, Front E (chg S z) t → Front E S t := fun t ⟨i, hi, p⟩ => by
      rcases (hmem i).1 hi with q | q
      · exact ⟨i, q, p⟩
      · subst q
        exact ⟨x, hx, Path.head e p⟩
    have fsup : ∀ t, Front E S t → Front E (chg S z) t := fun t ⟨i, hi, p⟩ => ⟨i, (hmem i).2 (.inl hi), p⟩
    obtain ⟨w, hw⟩ := light_all W aM c (chg S z) (hS.chg (can_mem W hcan)) (fun t ht => by
      rcases (hmem t).1 ht with q | q
      · exact sub t q
      · exact q ▸ hzM) (fun t ht => fsup t (fr t ht)) (fun p q e hq hp => cl p q e hq (fsub p hp)) (by
      have h2 : (M.filter fun x => decide (x ∉ S)) = (M.filter fun x => decide (x ∉ S)) := rfl
      have key : ∀ l : List Int, l.Nodup → z ∈ l → (l.filter fun x => decide (x ∉ S)).length = (l.filter fun x => decide (x ∉ chg S z)).length + 1 := by
        intro l
        induction l with
        | nil => intro _ h; cases h
        | cons a r ih =>
          intro hn hm
          obtain ⟨n1, n2⟩ := List.nodup_cons.1 hn
          by_cases q : a = z
          · subst q
            have e1 : (r.filter fun x => decide (x ∉ S)) = r.filter fun x => decide (x ∉ chg S a) := by
              refine List.filter_congr fun t ht => ?_
              have : t ≠ a := fun q => n1 (q ▸ ht)
              simp [hmem, this]
            rw [List.filter_cons_of_pos (by simpa using hz), List.filter_cons_of_neg (by simp [hmem]), e1]
            rfl
          · rcases List.mem_cons.1 hm with q' | hm
            · exact absurd q'.symm q
            · have := ih n2 hm
              by_cases ha : a ∈ S
              · rw [List.filter_cons_of_neg (by simpa using ha), List.filter_cons_of_neg (by simp [hmem, ha])]
                exact this
              · rw [List.filter_cons_of_pos (by simpa using ha), List.filter_cons_of_pos (by simp [hmem, ha, q])]
                rw [List.length_cons, List.length_cons, this]
      have := key M (asc_nodup aM) hzM
      omega)
    exact ⟨z :: w, hcan, hw⟩
/-- the lamps ahead of one and behind the other -/
theorem reach_of_comes {n : Nat} {E : Int → Int → Bool} (W : WebOk n E) {S T : List Int} (hS : St n S) (hT : St n T) (h : Comes E S T) : Reach E S T := by
  classical
  let M := (lamps n).filter fun k => decide (Front E S k ∧ Back E T k)
  have hM : ∀ k, k ∈ M ↔ Front E S k ∧ Back E T k := fun k => by
    show k ∈ (lamps n).filter _ ↔ _
    rw [List.mem_filter, decide_eq_true_iff, mem_lamps]
    refine ⟨fun h => h.2, fun h => ⟨?_, h⟩⟩
    obtain ⟨j, hj, p⟩ := h.1
    exact p.mem W (hS.mem j hj)
  have aM : Asc M := (asc_lamps n).filter _
  obtain ⟨w1, h1⟩ := light_all W aM _ S hS (fun x hx => (hM x).2 ⟨⟨x, hx, .refl⟩, h.2 x hx⟩) (fun y hy => ((hM y).1 hy).1) (fun p q e hq hp => by
    obtain ⟨j, hj, pj⟩ := ((hM q).1 hq).2
    exact (hM p).2 ⟨hp, j, hj, Path.head e pj⟩) rfl
  have fb : ∀ U t, Front (rev E) U t ↔ Back E U t := fun U t => by
    constructor
    · rintro ⟨j, hj, p⟩
      exact ⟨j, hj, path_rev.1 p⟩
    · rintro ⟨j, hj, p⟩
      exact ⟨j, hj, path_rev.2 p⟩
  obtain ⟨w2, h2⟩ := light_all (E := rev E) W.rev aM _ T hT (fun x hx => (hM x).2 ⟨h.1 x hx, ⟨x, hx, .refl⟩⟩) (fun y hy => (fb T y).2 ((hM y).1 hy).2) (fun p q e hq hp => by
    obtain ⟨j, hj, pj⟩ := ((hM q).1 hq).1
    exact (hM p).2 ⟨⟨j, hj, pj.tail e⟩, (fb T p).1 hp⟩) rfl
  have hMst : St n M := ⟨aM, fun x hx => mem_lamps.1 (List.mem_filter.1 hx).1⟩
  exact ⟨w1 ++ w2.reverse, leads_app.2 ⟨M, h1, leads_rev' W hT h2⟩⟩
theorem comes_iff {n : Nat} {E : Int → Int → Bool} (W : WebOk n E) {S T : List Int} (hS : St n S) (hT : St n T) : Comes E S T ↔ Reach E S T :=
  ⟨reach_of_comes W hS hT, fun ⟨_, h⟩ => comes_of_leads W h⟩
end Pl


set_option linter.all false
namespace Pl
/-! ### the order of words -/
def lexLt : List Int → List Int → Bool
  | [], [] => false
  | [], _ :: _ => true
  | _ :: _, [] => false
  | x :: xs, y :: ys => if x = y then lexLt xs ys else decide (x < y)
theorem lex_irr : ∀ a, lexLt a a = false
  | [] => rfl
  | x :: r => by simp [lexLt, lex_irr r]
theorem lex_asymm : ∀ {a b}, lexLt a b = true → lexLt b a = false
  | [], [], h => by simp [lexLt] at h
  | [], _ :: _, _ => rfl
  | _ :: _, [], h => by simp [lexLt] at h
  | x :: r, y :: s, h => by
    unfold lexLt at h ⊢
    by_cases e : x = y
    · rw [if_pos e] at h
      rw [if_pos e.symm]
      exact lex_asymm h
    · rw [if_neg e] at h
      rw [if_neg (fun z => e z.symm)]
      have := of_decide_eq_true h
      exact decide_eq_false (by omega)
theorem lex_tri : ∀ {a b}, a.length = b.length → lexLt a b = false → lexLt b a = false → a = b
  | [], [], _, _, _ => rfl
  | [], _ :: _, h, _, _ => by simp at h
  | _ :: _, [], h, _, _ => by simp at h
  | x :: r, y :: s, h, h1, h2 => by
    unfold lexLt at h1 h2
    by_cases e : x = y
    · rw [if_pos e] at h1
      rw [if_pos e.symm] at h2
      subst e
      rw [lex_tri (by simpa using h) h1 h2]
    · rw [if_neg e] at h1
      rw [if_neg (fun z => e z.symm)] at h2
      have a1 := of_decide_eq_false h1
      have a2 := of_decide_eq_false h2
      omega
theorem lex_trans : ∀ {a b c}, lexLt a b = true → lexLt b c = true → lexLt a c = true
  | [], [], _, h, _ => by simp [lexLt] at h
  | [], _ :: _, [], _, h => by simp [lexLt] at h
  | [], _ :: _, _ :: _, _, _ => rfl
  | _ :: _, [], _, h, _ => by simp [lexLt] at h
  | _ :: _, _ :: _, [], _, h => by simp [lexLt] at h
  | x :: r, y :: s, z :: t, h1, h2 => by
    unfold lexLt at h1 h2 ⊢
    by_cases e : x = y
    · subst e
      rw [if_pos rfl] at h1
      by_cases e : x = z
      · subst e
        rw [if_pos rfl] at h2
        rw [if_pos rfl]
        exact lex_trans h1 h2
      · rw [if_neg e] at h2 ⊢
        exact h2
    · rw [if_neg e] at h1
      have a1 := of_decide_eq_true h1
      by_cases e2 : y = z
      · subst e2
        rw [if_neg e]
        exact h1
      · rw [if_neg e2] at h2
        have a2 := of_decide_eq_true h2
        rw [if_neg (by omega)]
        exact decide_eq_true (by omega)
/-- not behind, of words of one length -/
theorem lex_le_trans {a b c : List Int} (l : a.length = b.length) (h1 : lexLt b a = false) (h2 : lexLt c b = false) : lexLt c a = false := by
  by_cases e : lexLt a b = true
  · refine Bool.eq_false_iff.2 fun q => ?_
    have := lex_trans q e
    rw [h2] at this
    cases this
  · have e : lexLt a b = false := Bool.eq_false_iff.2 e
    rw [lex_tri l e h1]
    exact h2
theorem lex_snoc : ∀ {a b : List Int} {j k : Int}, a.length = b.length → lexLt (a ++ [j]) (b ++ [k]) = if a = b then decide (j < k) else lexLt a b
  | [], [], j, k, _ => by
    by_cases e : j = k
    · subst e; simp [lexLt]
    · simp [lexLt, e]
  | [], _ :: _, _, _, h => by simp at h
  | _ :: _, [], _, _, h => by simp at h
  | x :: r, y :: s, j, k, h => by
    have ih := lex_snoc (a := r) (b := s) (j := j) (k := k) (by simpa using h)
    simp only [List.cons_append]
    unfold lexLt
    rw [ih]
    by_cases e : x = y
    · subst e
      simp
    · simp [e]
/-! ### the least of the shortest words -/
structure IsLeast (E : Int → Int → Bool) (S T w : List Int) : Prop where
  leads : Leads E S w T
  dist : IsDist E S T w.length
  least : ∀ w', Leads E S w' T → w'.length = w.length → lexLt w' w = false
theorem IsLeast.uniq {E : Int → Int → Bool} {S T w w' : List Int} (a : IsLeast E S T w) (b : IsLeast E S T w') : w = w' := by
  have l : w.length = w'.length := a.dist.uniq b.dist
  exact lex_tri l (b.least _ a.leads l) (a.least _ b.leads l.symm)
theorem least_self (E : Int → Int → Bool) (S : List Int) : IsLeast E S S [] := ⟨rfl, dist_self E S, fun w' _ h => by
  rw [List.eq_nil_of_length_eq_zero h]; rfl⟩
/-- a longer one, out of those of one deed less -/
theorem least_next {E : Int → Int → Bool} {S T w : List Int} {r : Nat} (d : IsDist E S T (r + 1)) (h1 : ∃ X k u, IsDist E S X r ∧ can E X k = true ∧ chg X k = T ∧ IsLeast E S X u ∧ w = u ++ [k])
    (h2 : ∀ X k, IsDist E S X r → can E X k = true → chg X k = T → ∃ u, IsLeast E S X u ∧ lexLt (u ++ [k]) w = false) : IsLeast E S T w := by
  obtain ⟨X, k, u, dX, c, e, lu, rfl⟩ := h1
  have hu : u.length = r := lu.dist.uniq dX
  have hl : Leads E S (u ++ [k]) T := leads_snoc.2 ⟨X, lu.leads, c, e⟩
  refine ⟨hl, by rw [List.length_append, hu]; exact d, fun w' h' l' => ?_⟩
  have hne : w' ≠ [] := fun z => by subst z; simp at l'
  obtain ⟨v, j, rfl⟩ : ∃ v j, w' = v ++ [j] := ⟨w'.dropLast, w'.getLast hne, (List.dropLast_concat_getLast hne).symm⟩
  obtain ⟨Y, a, b, c'⟩ := leads_snoc.1 h'
  have hv : v.length = r := by simp at l'; omega
  have dY : IsDist E S Y r := by
    rw [← hv]
    exact dist_prefix (u := v) (v := [j]) d (by simp [hv]) a ⟨b, c'⟩
  obtain ⟨x, lx, hx⟩ := h2 Y j dY b c'
  have hxl : x.length = v.length := by rw [hv]; exact lx.dist.uniq dY
  have q : lexLt (v ++ [j]) (x ++ [j]) = false := by
    rw [lex_snoc hxl.symm]
    split
    · exact decide_eq_false (by omega)
    · exact lx.least _ a hxl.symm
  refine lex_le_trans (a := u ++ [k]) (b := x ++ [j]) (c := v ++ [j]) ?_ hx q
  simp [hu, hxl, hv]
/-- the way taken lamp by lamp -/
structure Greedy (E : Int → Int → Bool) (S T found here : List Int) (d : Nat) : Prop where
  leads : Leads E S found here
  left : IsDist E here T d
  all : IsDist E S T (found.length + d)
  least : ∀ w', Leads E S w' T → w'.length = found.length + d → lexLt (w'.take found.length) found = false
theorem greedy_start {E : Int → Int → Bool} {S T : List Int} {d : Nat} (h : IsDist E S T d) : Greedy E S T [] S d := ⟨rfl, h, by simpa using h, fun _ _ _ => by simp [lexLt]⟩
theorem greedy_next {E : Int → Int → Bool} {S T found here : List Int} {d : Nat} (g : Greedy E S T found here (d + 1)) {k : Int} (hk : can E here k = true) (hd : IsDist E (chg here k) T d)
    (hl : ∀ j, can E here j = true → IsDist E (chg here j) T d → k ≤ j) : Greedy E S T (found ++ [k]) (chg here k) d := by
  have el : (found ++ [k]).length + d = found.length + (d + 1) := by simp; omega
  refine ⟨leads_snoc.2 ⟨here, g.leads, hk, rfl⟩, hd, by rw [el]; exact g.all, fun w' h' l' => ?_⟩
  rw [el] at l'
  have hlt : found.length < w'.length := by omega
  have e1 : w' = w'.take found.length ++ w'[found.length] :: w'.drop (found.length + 1) := by
    rw [← List.drop_eq_getElem_cons hlt, List.take_append_drop]
  have e2 : w'.take (found ++ [k]).length = w'.take found.length ++ [w'[found.length]] := by
    rw [List.length_append, List.length_singleton, List.take_add_one, List.getElem?_eq_getElem hlt]
    rfl
  have lt : (w'.take found.length).length = found.length := by rw [List.length_take]; omega
  rw [e2, lex_snoc lt]
  split
  · rename_i e
    rw [e1] at h'
    obtain ⟨X, a, b⟩ := leads_app.1 h'
    rw [e] at a
    have eX := leads_det a g.leads
    subst eX
    refine decide_eq_false ?_
    have := hl _ b.1 ⟨⟨w'.drop (found.length + 1), by simp; omega, b.2⟩, fun v hv => ?_⟩
    · omega
    · have := g.all.le (found ++ (w'[found.length] :: v)) (leads_app.2 ⟨X, g.leads, b.1, hv⟩)
      simp at this
      omega
  · exact g.least w' h' l'
theorem greedy_end {E : Int → Int → Bool} {S T found : List Int} {d : Nat} (g : Greedy E S T found T d) : IsLeast E S T found := by
  have e : d = 0 := g.left.uniq (dist_self E T)
  subst e
  refine ⟨g.leads, g.all, fun w' h' l' => ?_⟩
  have := g.least w' h' l'
  rw [← l', List.take_length] at this
  exact this
theorem greedy_has {n : Nat} {E : Int → Int → Bool} (W : WebOk n E) {S T found here : List Int} {d : Nat} (g : Greedy E S T found here d) (hne : here ≠ T) : ∃ e k, d = e + 1 ∧ can E here k = true ∧ IsDist E (chg here k) T e := by
  obtain ⟨w, hw, hl⟩ := g.left.ex
  cases w with
  | nil => exact absurd hl hne
  | cons k r =>
    refine ⟨r.length, k, by simpa using hw.symm, hl.1, ⟨r, rfl, hl.2⟩, fun v hv => ?_⟩
    have := g.left.le (k :: v) ⟨hl.1, hv⟩
    simp at this hw
    omega
/-! ### layers -/
theorem layer_next {E : Int → Int → Bool} {S Y : List Int} {r : Nat} (h1 : ¬ ∃ m, m ≤ r ∧ IsDist E S Y m) (h2 : ∃ X k, IsDist E S X r ∧ can E X k = true ∧ chg X k = Y) : IsDist E S Y (r + 1) := by
  obtain ⟨X, k, d, c, rfl⟩ := h2
  obtain ⟨m, hm, hle⟩ := dist_step d c
  have : m = r + 1 := by
    refine Nat.le_antisymm hle (Nat.lt_of_not_le fun q => h1 ⟨m, q, hm⟩)
  rw [← this]
  exact hm
theorem layer_iff {E : Int → Int → Bool} {S Y : List Int} {r : Nat} : IsDist E S Y (r + 1) ↔ (¬ ∃ m, m ≤ r ∧ IsDist E S Y m) ∧ ∃ X k, IsDist E S X r ∧ can E X k = true ∧ chg X k = Y := by
  refine ⟨fun h => ⟨fun ⟨m, hm, hd⟩ => ?_, dist_pred h⟩, fun h => layer_next h.1 h.2⟩
  have := h.uniq hd
  omega
theorem IsDist.st {n : Nat} {E : Int → Int → Bool} (W : WebOk n E) {S T : List Int} (hS : St n S) {m : Nat} (h : IsDist E S T m) : St n T := by
  obtain ⟨w, _, h⟩ := h.ex
  exact leads_st W hS h
/-! ### how many standings there are -/
def subs : List Int → List (List Int)
  | [] => [[]]
  | a :: r => subs r ++ (subs r).map (a :: ·)
theorem subs_len : ∀ l, (subs l).length = 2 ^ l.length
  | [] => rfl
  | a :: r => by
    have := subs_len r
    simp only [subs, List.length_append, List.length_map, List.length_cons, this, Nat.pow_succ]
    omega
theorem mem_subs : ∀ {l S : List Int}, Asc l → Asc S → (∀ x ∈ S, x ∈ l) → S ∈ subs l
  | [], S, _, _, h => by
    have : S = [] := List.eq_nil_iff_forall_not_mem.2 fun x hx => by cases h x hx
    subst this
    simp [subs]
  | a :: r, S, hl, hS, h => by
    obtain ⟨a1, a2⟩ := List.pairwise_cons.1 hl
    cases S with
    | nil =>
      simp only [subs, List.mem_append]
      exact .inl (mem_subs a2 List.Pairwise.nil fun x hx => by cases hx)
    | cons b t =>
      obtain ⟨b1, b2⟩ := List.pairwise_cons.1 hS
      simp only [subs, List.mem_append, List.mem_map]
      by_cases e : b = a
      · subst e
        refine .inr ⟨t, mem_subs a2 b2 fun x hx => ?_, rfl⟩
        rcases List.mem_cons.1 (h x (List.mem_cons_of_mem _ hx)) with q | q
        · have := b1 x hx
          omega
        · exact q
      · refine .inl (mem_subs a2 hS fun x hx => ?_)
        rcases List.mem_cons.1 (h x hx) with q | q
        · subst q
          have hb : b ∈ r := by
            rcases List.mem_cons.1 (h b List.mem_cons_self) with q | q
            · exact absurd q e
            · exact q
          have := a1 b hb
          rcases List.mem_cons.1 hx with z | z
          · omega
          · have := b1 x z
            omega
        · exact q
theorem St.mem_subs {n : Nat} {S : List Int} (h : St n S) : S ∈ subs (lamps n) := Pl.mem_subs (asc_lamps n) h.asc fun x hx => mem_lamps.2 (h.mem x hx)
theorem nodup_le {α : Type} [DecidableEq α] : ∀ {l m : List α}, l.Nodup → (∀ x ∈ l, x ∈ m) → l.length ≤ m.length
  | [], _, _, _ => Nat.zero_le _
  | a :: r, m, hn, h => by
    obtain ⟨n1, n2⟩ := List.nodup_cons.1 hn
    have ha := h a List.mem_cons_self
    have : r.length ≤ (m.erase a).length := nodup_le n2 fun x hx => by
      have hne : x ≠ a := fun q => n1 (q ▸ hx)
      exact (List.mem_erase_of_ne hne).2 (h x (List.mem_cons_of_mem _ hx))
    rw [List.length_erase_of_mem ha] at this
    have := List.length_pos_of_mem ha
    simp only [List.length_cons]
    omega
theorem st_count {n : Nat} {l : List (List Int)} (hn : l.Nodup) (h : ∀ S ∈ l, St n S) : l.length ≤ 2 ^ n := by
  have := nodup_le hn fun S hS => (h S hS).mem_subs
  rwa [subs_len, lamps_len] at this
theorem st_count6 {n : Nat} (h6 : n ≤ 6) {l : List (List Int)} (hn : l.Nodup) (h : ∀ S ∈ l, St n S) : l.length ≤ 64 := by
  have := st_count hn h
  have : 2 ^ n ≤ 2 ^ 6 := Nat.pow_le_pow_right (by decide) h6
  omega
theorem st_count63 {n : Nat} (h6 : n ≤ 6) {l : List (List Int)} (hn : l.Nodup) (h : ∀ S ∈ l, St n S) (he : [] ∉ l) : l.length ≤ 63 := by
  have hst : St n [] := ⟨List.Pairwise.nil, fun x hx => by cases hx⟩
  have := st_count6 h6 (l := [] :: l) (List.nodup_cons.2 ⟨he, hn⟩) fun S hS => by
    rcases List.mem_cons.1 hS with e | hS
    · rw [e]; exact hst
    · exact h S hS
  simp at this
  omega
theorem dist_chain {E : Int → Int → Bool} {S : List Int} : ∀ {m : Nat} {T : List Int}, IsDist E S T m → ∃ l : List (List Int), l.Nodup ∧ l.length = m + 1 ∧ ∀ X ∈ l, ∃ i, i ≤ m ∧ IsDist E S X i
  | 0, T, h => ⟨[T], by simp, rfl, fun X hX => by
    simp at hX
    exact ⟨0, Nat.le_refl _, hX ▸ h⟩⟩
  | m + 1, T, h => by
    obtain ⟨X, k, hX, _, _⟩ := dist_pred h
    obtain ⟨l, h1, h2, h3⟩ := dist_chain hX
    refine ⟨T :: l, List.nodup_cons.2 ⟨fun q => ?_, h1⟩, by simp [h2], fun Y hY => ?_⟩
    · obtain ⟨i, hi, hd⟩ := h3 T q
      have := hd.uniq h
      omega
    · rcases List.mem_cons.1 hY with e | hY
      · exact ⟨m + 1, Nat.le_refl _, e ▸ h⟩
      · obtain ⟨i, hi, hd⟩ := h3 Y hY
        exact ⟨i, by omega, hd⟩
theorem dist_lt {n : Nat} (h6 : n ≤ 6) {E : Int → Int → Bool} (W : WebOk n E) {S T : List Int} (hS : St n S) {m : Nat} (h : IsDist E S T m) : m < 64 := by
  obtain ⟨l, h1, h2, h3⟩ := dist_chain h
  have := st_count6 h6 h1 fun X hX => by
    obtain ⟨i, _, hd⟩ := h3 X hX
    exact hd.st W hS
  omega
/-- the dark standing stands alone -/
theorem can_nil (E : Int → Int → Bool) (k : Int) : can E [] k = false := by simp [can]
theorem leads_nil {E : Int → Int → Bool} : ∀ {w T}, Leads E [] w T → T = []
  | [], T, h => Eq.symm h
  | k :: w, T, h => by
    have := h.1
    rw [can_nil] at this
    cases this
theorem dist_ne {n : Nat} {E : Int → Int → Bool} (W : WebOk n E) {S T : List Int} (hS : St n S) (h0 : S ≠ []) {m : Nat} (h : IsDist E S T m) : T ≠ [] := fun e => by
  subst e
  obtain ⟨w, _, hl⟩ := h.ex
  exact h0 (leads_nil (leads_rev W hS hl))
end Pl


set_option linter.all false
namespace Pl
/-! ### how many words -/
def sumOf {α : Type} (f : α → Int) : List α → Int
  | [] => 0
  | a :: r => f a + sumOf f r
theorem sumOf_app {α : Type} (f : α → Int) : ∀ l m : List α, sumOf f (l ++ m) = sumOf f l + sumOf f m
  | [], m => by simp [sumOf]
  | a :: r, m => by simp only [List.cons_append, sumOf, sumOf_app f r m]; omega
theorem sumOf_congr {α : Type} {f g : α → Int} : ∀ {l : List α}, (∀ a ∈ l, f a = g a) → sumOf f l = sumOf g l
  | [], _ => rfl
  | a :: r, h => by
    simp only [sumOf]
    rw [h a List.mem_cons_self, sumOf_congr fun b hb => h b (List.mem_cons_of_mem _ hb)]
theorem sumOf_zero {α : Type} {f : α → Int} {l : List α} (h : ∀ a ∈ l, f a = 0) : sumOf f l = 0 := by
  rw [sumOf_congr (g := fun _ => 0) h]
  induction l with
  | nil => rfl
  | cons a r ih => simp only [sumOf]; rw [ih fun b hb => h b (List.mem_cons_of_mem _ hb)]; rfl
theorem sumOf_add {α : Type} (f g : α → Int) : ∀ l : List α, sumOf (fun a => f a + g a) l = sumOf f l + sumOf g l
  | [] => rfl
  | a :: r => by simp only [sumOf, sumOf_add f g r]; omega
theorem sumOf_swap {α β : Type} (f : α → β → Int) (m : List β) : ∀ l : List α, sumOf (fun a => sumOf (f a) m) l = sumOf (fun b => sumOf (fun a => f a b) l) m
  | [] => (sumOf_zero fun _ _ => rfl).symm
  | a :: r => by
    simp only [sumOf, sumOf_swap f m r]
    rw [← sumOf_add]
theorem sumOf_map {α β : Type} (f : β → Int) (g : α → β) : ∀ l : List α, sumOf f (l.map g) = sumOf (fun a => f (g a)) l
  | [] => rfl
  | a :: r => by simp only [List.map_cons, sumOf, sumOf_map f g r]
theorem sumOf_filter {α : Type} (f : α → Int) (p : α → Bool) : ∀ l : List α, sumOf f (l.filter p) = sumOf (fun a => if p a = true then f a else 0) l
  | [] => rfl
  | a :: r => by
    by_cases h : p a = true
    · rw [List.filter_cons_of_pos h]
      simp only [sumOf, sumOf_filter f p r, if_pos h]
    · rw [List.filter_cons_of_neg h]
      simp only [sumOf, sumOf_filter f p r, if_neg h]
      omega
theorem sumOf_flatMap {α β : Type} (f : β → Int) (g : α → List β) : ∀ l : List α, sumOf f (l.flatMap g) = sumOf (fun a => sumOf f (g a)) l
  | [] => rfl
  | a :: r => by simp only [List.flatMap_cons, sumOf, sumOf_app, sumOf_flatMap f g r]
theorem sumOf_nonneg {α : Type} {f : α → Int} : ∀ {l : List α}, (∀ a ∈ l, 0 ≤ f a) → 0 ≤ sumOf f l
  | [], _ => Int.le_refl 0
  | a :: r, h => by
    have := h a List.mem_cons_self
    have := sumOf_nonneg fun b hb => h b (List.mem_cons_of_mem _ hb)
    simp only [sumOf]; omega
theorem sumOf_ge {α : Type} {f : α → Int} : ∀ {l : List α}, (∀ a ∈ l, 0 ≤ f a) → ∀ a ∈ l, f a ≤ sumOf f l
  | b :: r, h, a, ha => by
    have h1 := h b List.mem_cons_self
    have h2 := sumOf_nonneg fun c hc => h c (List.mem_cons_of_mem _ hc)
    simp only [sumOf]
    rcases List.mem_cons.1 ha with e | ha
    · subst e; omega
    · have := sumOf_ge (fun c hc => h c (List.mem_cons_of_mem _ hc)) a ha
      omega
theorem sumOf_one {α : Type} [DecidableEq α] {f : α → Int} {x : α} : ∀ {l : List α}, l.Nodup → sumOf (fun a => if a = x then f a else 0) l = if x ∈ l then f x else 0
  | [], _ => by simp [sumOf]
  | a :: r, hn => by
    obtain ⟨n1, n2⟩ := List.nodup_cons.1 hn
    simp only [sumOf, sumOf_one n2]
    by_cases e : a = x
    · subst e
      simp [n1]
    · by_cases q : x ∈ r
      · simp [e, q]
      · have : x ∉ a :: r := by simp only [List.mem_cons, not_or]; exact ⟨fun z => e z.symm, q⟩
        simp [e, q, this]
/-- the number of words of so many deeds from S to Y -/
def cnt (n : Nat) (E : Int → Int → Bool) (S : List Int) : Nat → List Int → Int
  | 0, Y => if Y = S then 1 else 0
  | i + 1, Y => sumOf (fun k => if can E (chg Y k) k = true then cnt n E S i (chg Y k) else 0) (lamps n)
theorem cnt_nonneg (n : Nat) (E : Int → Int → Bool) (S : List Int) : ∀ i Y, 0 ≤ cnt n E S i Y
  | 0, Y => by unfold cnt; split <;> decide
  | i + 1, Y => by
    unfold cnt
    refine sumOf_nonneg fun k _ => ?_
    split
    · exact cnt_nonneg n E S i _
    · exact Int.le_refl 0
theorem cnt_pos {n : Nat} {E : Int → Int → Bool} (W : WebOk n E) {S : List Int} (hS : St n S) : ∀ {i : Nat} {w Y}, w.length = i → Leads E S w Y → 0 < cnt n E S i Y
  | 0, w, Y, e, h => by
    have : w = [] := List.eq_nil_of_length_eq_zero e
    subst this
    have : S = Y := h
    subst this
    simp [cnt]
  | i + 1, w, Y, e, h => by
    have hne : w ≠ [] := fun z => by subst z; simp at e
    obtain ⟨u, k, rfl⟩ : ∃ u k, w = u ++ [k] := ⟨w.dropLast, w.getLast hne, (List.dropLast_concat_getLast hne).symm⟩
    obtain ⟨X, a, b, c⟩ := leads_snoc.1 h
    have hX := leads_st W hS a
    have eX : chg Y k = X := by rw [← c]; exact chg_chg hX.asc k
    have ih := cnt_pos W hS (i := i) (by simpa using e) a
    have hk : k ∈ lamps n := mem_lamps.2 (can_mem W b)
    have := sumOf_ge (f := fun k => if can E (chg Y k) k = true then cnt n E S i (chg Y k) else 0) (l := lamps n) (fun j _ => by
      show 0 ≤ (if can E (chg Y j) j = true then cnt n E S i (chg Y j) else 0)
      split
      · exact cnt_nonneg n E S i _
      · exact Int.le_refl 0) k hk
    simp only [eX, b, if_true] at this
    unfold cnt
    omega
theorem cnt_word {n : Nat} {E : Int → Int → Bool} {S : List Int} : ∀ {i : Nat} {Y}, Asc Y → cnt n E S i Y ≠ 0 → ∃ w, w.length = i ∧ Leads E S w Y
  | 0, Y, _, h => by
    unfold cnt at h
    split at h
    · rename_i e
      exact ⟨[], rfl, e.symm⟩
    · exact absurd rfl h
  | i + 1, Y, aY, h => by
    refine Classical.byContradiction fun q => h ?_
    unfold cnt
    refine sumOf_zero fun k _ => ?_
    split
    · rename_i hc
      refine Classical.byContradiction fun z => q ?_
      obtain ⟨w, h1, h2⟩ := cnt_word (asc_chg aY k) z
      exact ⟨w ++ [k], by simp [h1], leads_snoc.2 ⟨_, h2, hc, chg_chg aY k⟩⟩
    · rfl
/-! ### the double loop -/
/-- all pairs of a standing and a deed on it, in their turn -/
def pairs (n : Nat) (E : Int → Int → Bool) (R : List (List Int)) : List (List Int × Int) := R.flatMap fun X => (doable n E X).map fun k => (X, k)
theorem mem_pairs {n : Nat} {E : Int → Int → Bool} (W : WebOk n E) {R : List (List Int)} {p : List Int × Int} : p ∈ pairs n E R ↔ p.1 ∈ R ∧ can E p.1 p.2 = true := by
  unfold pairs
  rw [List.mem_flatMap]
  constructor
  · rintro ⟨X, hX, h⟩
    obtain ⟨k, hk, rfl⟩ := List.mem_map.1 h
    exact ⟨hX, (mem_doable W).1 hk⟩
  · rintro ⟨h1, h2⟩
    exact ⟨p.1, h1, List.mem_map.2 ⟨p.2, (mem_doable W).2 h2, rfl⟩⟩
/-- what the pairs bring to Y -/
def psum (c : List Int → Int) (P : List (List Int × Int)) (Y : List Int) : Int := sumOf (fun p => if chg p.1 p.2 = Y then c p.1 else 0) P
theorem psum_snoc (c : List Int → Int) (P : List (List Int × Int)) (X : List Int) (k : Int) (Y : List Int) : psum c (P ++ [(X, k)]) Y = psum c P Y + if chg X k = Y then c X else 0 := by
  unfold psum
  rw [sumOf_app]
  simp [sumOf]
theorem psum_zero {c : List Int → Int} {P : List (List Int × Int)} {Y : List Int} (h : ∀ p ∈ P, chg p.1 p.2 ≠ Y) : psum c P Y = 0 := sumOf_zero fun p hp => if_neg (h p hp)
theorem psum_pairs {n : Nat} {E : Int → Int → Bool} (W : WebOk n E) {R : List (List Int)} (hn : R.Nodup) (hR : ∀ X ∈ R, Asc X) (c : List Int → Int) {Y : List Int} (aY : Asc Y) :
    psum c (pairs n E R) Y = sumOf (fun k => if can E (chg Y k) k = true then (if chg Y k ∈ R then c (chg Y k) else 0) else 0) (lamps n) := by
  unfold psum pairs
  rw [sumOf_flatMap]
  have e1 : sumOf (fun X => sumOf (fun p : List Int × Int => if chg p.1 p.2 = Y then c p.1 else 0) ((doable n E X).map fun k => (X, k))) R
      = sumOf (fun X => sumOf (fun k => if X = chg Y k then (if can E X k = true then c X else 0) else 0) (lamps n)) R := by
    refine sumOf_congr fun X hX => ?_
    rw [sumOf_map]
    unfold doable
    rw [sumOf_filter]
    refine sumOf_congr fun k hk => ?_
    by_cases h1 : can E X k = true
    · rw [if_pos h1]
      by_cases h2 : X = chg Y k
      · rw [if_pos h2, if_pos h1]
        have : chg X k = Y := by rw [h2]; exact chg_chg aY k
        rw [if_pos this]
      · rw [if_neg h2]
        have : ¬ chg X k = Y := fun e => h2 (by rw [← e]; exact (chg_chg (hR X hX) k).symm)
        rw [if_neg this]
    · rw [if_neg h1]
      split
      · rfl
      · rfl
  rw [e1, sumOf_swap]
  refine sumOf_congr fun k hk => ?_
  have := sumOf_one (f := fun X => if can E X k = true then c X else 0) (x := chg Y k) hn
  rw [this]
  by_cases h1 : can E (chg Y k) k = true
  · simp only [h1, if_true]
  · simp only [h1]
    split <;> rfl
/-- one layer on, of the standings by their distance from S -/
theorem cnt_from {n : Nat} {E : Int → Int → Bool} (W : WebOk n E) {S : List Int} (hS : St n S) {R : List (List Int)} {r : Nat} (hn : R.Nodup) (hR : ∀ X, X ∈ R ↔ IsDist E S X r) {Y : List Int} (hY : IsDist E S Y (r + 1)) :
    cnt n E S (r + 1) Y = psum (cnt n E S r) (pairs n E R) Y := by
  have sY := hY.st W hS
  rw [psum_pairs W hn (fun X hX => (((hR X).1 hX).st W hS).asc) _ sY.asc]
  show sumOf _ (lamps n) = _
  refine sumOf_congr fun k hk => ?_
  by_cases h1 : can E (chg Y k) k = true
  · rw [if_pos h1, if_pos h1]
    by_cases h2 : chg Y k ∈ R
    · rw [if_pos h2]
    · rw [if_neg h2]
      refine Classical.byContradiction fun q => h2 ?_
      obtain ⟨w, e, hl⟩ := cnt_word (asc_chg sY.asc k) q
      refine (hR _).2 ⟨⟨w, e, hl⟩, fun v hv => ?_⟩
      have := hY.le (v ++ [k]) (leads_snoc.2 ⟨_, hv, h1, chg_chg sY.asc k⟩)
      simp at this
      exact this
  · rw [if_neg h1, if_neg h1]
/-- one layer on, of the standings by their distance to T -/
theorem cnt_to {n : Nat} {E : Int → Int → Bool} (W : WebOk n E) {S T : List Int} (hS : St n S) {R : List (List Int)} {i d : Nat} (hD : IsDist E S T (i + (d + 1))) (hn : R.Nodup)
    (hR : ∀ X, X ∈ R ↔ IsDist E X T (d + 1) ∧ ∃ w, w.length = i ∧ Leads E S w X) {Y : List Int} (aY : Asc Y) (hY : IsDist E Y T d) :
    cnt n E S (i + 1) Y = psum (cnt n E S i) (pairs n E R) Y := by
  rw [psum_pairs W hn (fun X hX => by
    obtain ⟨_, w, _, hl⟩ := (hR X).1 hX
    exact (leads_st W hS hl).asc) _ aY]
  show sumOf _ (lamps n) = _
  refine sumOf_congr fun k hk => ?_
  by_cases h1 : can E (chg Y k) k = true
  · rw [if_pos h1, if_pos h1]
    by_cases h2 : chg Y k ∈ R
    · rw [if_pos h2]
    · rw [if_neg h2]
      refine Classical.byContradiction fun q => h2 ?_
      obtain ⟨w, e, hl⟩ := cnt_word (asc_chg aY k) q
      obtain ⟨v, ev, hv⟩ := hY.ex
      refine (hR _).2 ⟨⟨⟨k :: v, by simp [ev], h1, by rw [chg_chg aY k]; exact hv⟩, fun x hx => ?_⟩, w, e, hl⟩
      have := hD.le (w ++ x) (leads_app.2 ⟨_, hl, hx⟩)
      simp at this
      omega
  · rw [if_neg h1, if_neg h1]
end Pl


set_option Elab.async false
set_option linter.all false
set_option maxRecDepth 100000
namespace Pl
open PySem PySem.Spec PyProof.Rows L2 Pr
/-! ### the text -/
def topS (i : Nat) : Stmt := PySem.Challenge.pw_passlights_k13_whole_least_ways.main.body.getD i (.Pass ⟨0, 0, 0, 0⟩)
/-- a def of the top, as it stands behind the top -/
def Has (K : PySem.W.Frag) (mg : Str → Option Value) (x : Str) (st : Stmt) (ps : List Str) : Prop := ∃ f fd, Fun K x x st f fd ∧ mg x = some (.ref f) ∧ Binds K fd ps []
/-- what a call of x is worth -/
structure Cal (P : Program) (w : World) (K : PySem.W.Frag) (mg : Str → Option Value) (base : Heap) (k : Nat) (x : Str) (ps : List Str) (sp : Sp) : Prop where
  ex : ∃ f fd, FnOk P w K mg base CX0 k f fd ps sp ∧ mg x = some (.ref f) ∧ PySem.W.keepIn K (.ref f) = true ∧ Binds K fd ps []
section
variable {P : Program} {w : World} {K : PySem.W.Frag} {mg : Str → Option Value} {base : Heap}
theorem Cal.of {x : Str} {st : Stmt} {N ps : List Str} {k : Nat} {sp : Sp} (D : Has K mg x st ps) (S : FnScope N ps (defScope st)) (len : ∀ vs H Q E, sp vs H Q E → vs.length = ps.length)
    (body : ∀ (f : Addr) (cdv : Value) (A : Around) (outer : List Env) (s : Shared) (H : Hp) (vs : List V) (Q : VK) (E : XK), Room k (A.deeper (envOfC x (defScope st) s.heap.objs.size f cdv)) → sp vs H Q E →
      ∃ t, PSs (cxOf CX0 P w K mg base N x (defScope st) f cdv A outer s H E).nox (defBody st) t ∧ t { nx := fun _ H' => Q .non H', rt := Q } (start N vs) H) : Cal P w K mg base (k + 1) x ps sp := by
  obtain ⟨f, fd, F, g, b⟩ := D
  exact ⟨f, fd, F.ok S len (body f), g, F.kp, b⟩
theorem Cal.mono {x : Str} {ps : List Str} {j k : Nat} {sp : Sp} (C : Cal P w K mg base j x ps sp) (h : j ≤ k) : Cal P w K mg base k x ps sp := by
  obtain ⟨f, fd, F, r⟩ := C.ex
  exact ⟨f, fd, F.mono h, r⟩
end
section
variable {X : Cx}
theorem pe_cal {x : Str} {ps : List Str} {k : Nat} {sp : Sp} {t : TA} {p pos : Pos} {e : Expr} {es : List Expr} (C : Cal X.prog X.w X.K X.mg X.base k x ps sp) (hr : Room k X.A) (hg : Gl X x) (ha : PA X (e :: es) t)
    (hdb : (x == ("__debug__" : Str)) = false := by decide) (he : starEach (e :: es) X.env = (false, eval e X.env) :: starEach es X.env := by rfl) (hpl : (backTo pos (starEach es X.env)).any (·.1) = false := by rfl) :
    PE X (.Call (.Name x p) (e :: es) [] pos) (tCall sp [] E0 t) := by
  obtain ⟨f, fd, F, g, kp, b⟩ := C.ex
  exact pe_call F hr hg g kp b .nil pass0 ha hdb he hpl
/-- isinstance(e, c), c a built-in class by its name -/
def rIsi1 (K : PySem.W.Frag) : List V → Hp → VK → Prop := fun xs H Q => ∃ (x : V) (c t : String) (b : Bool), xs = [x, .ty c] ∧ TyX K H x (.type t) ∧ kitB t c = some b ∧ Q (.bl b) H
theorem call_isi1 : CallR X (.builtin "isinstance") (rIsi1 X.K) := fun pins s σ H xs us Q I r ⟨x, c, t, b, e, ty, k, q⟩ =>
  call_isi pins s σ H xs us Q I r ⟨x, .ty c, .type t, .type c, b, e, .ty c, ty, kit_ty k, q⟩
theorem pe_isi {e : Expr} {te : TE} {x : Str} {c : String} {p p2 pos : Pos} (hm : X.mg "isinstance" = none) (hm2 : X.mg x = none) (hv : bootBuiltins x = some (.type c)) (he : PE X e te) (hg : Gl X "isinstance" := by rfl) (hg2 : Gl X x := by rfl)
    (hn : x ≠ "__name__" := by decide) (hd : (x == ("__debug__" : Str)) = false := by decide)
    (h1 : starEach [e, .Name x p2] X.env = (false, eval e X.env) :: starEach [.Name x p2] X.env := by rfl) (h2 : (backTo pos (starEach [.Name x p2] X.env)).any (·.1) = false := by rfl)
    (h3 : starEach [.Name x p2] X.env = (false, eval (.Name x p2) X.env) :: starEach [] X.env := by rfl) :
    PE X (.Call (.Name "isinstance" p) [e, .Name x p2] [] pos) (tCB (rIsi1 X.K) (tCons te (tCons (tC (.ty c)) tNil))) :=
  pe_callB call_isi1 hg hm boot_isinstance (pa_cons he (pa_cons (pe_bltn (v := .ty c) hg2 hm2 hv rfl hn hd) pa_nil h3) h1) (he := h1) (hpl := h2)
end
/-- the built-in names that the text calls, untouched by the module -/
structure Bi (mg : Str → Option Value) : Prop where
  len : mg "len" = none
  isinstance : mg "isinstance" = none
  int : mg "int" = none
  bool : mg "bool" = none
  tuple : mg "tuple" = none
  list : mg "list" = none
  str : mg "str" = none
  range : mg "range" = none
  sorted : mg "sorted" = none
  set : mg "set" = none
  enumerate : mg "enumerate" = none
  most : ∃ t, mg "MOST_LAMPS" = some (.int 9 t)
/-! ### heaps -/
abbrev TI (H : Hp) (a : Addr) (ns : List Int) : Prop := H a = some (.tup (ns.map V.int))
abbrev LI (H : Hp) (a : Addr) (ns : List Int) : Prop := H a = some (.lst (ns.map V.int))
theorem same_new {H : Hp} {p : Addr} {o : HO} (h : H p = none) : Same H (upd H p o) := fun b x e => by
  rw [upd_ne (ne_of_none e h)]
  exact e
/-- all that was tracked but r is as it was -/
def SameBut (r : Addr) (H H' : Hp) : Prop := ∀ b o, H b = some o → b ≠ r → H' b = some o
theorem same_but {H H' : Hp} (h : Same H H') (r : Addr) : SameBut r H H' := fun b o e _ => h b o e
theorem SameBut.trans {r : Addr} {H H1 H2 : Hp} (a : SameBut r H H1) (b : SameBut r H1 H2) : SameBut r H H2 := fun c o e n => b c o (a c o e n) n
theorem SameBut.upd {r : Addr} {H : Hp} {o : HO} : SameBut r H (L2.upd H r o) := fun b x e n => by
  rw [upd_ne n]
  exact e
/-- arrows as a test -/
def arr (A : List (Addr × Int × Int)) : Int → Int → Bool := fun x y => decide ((x, y) ∈ A.map (·.2))
/-- a web of n lamps with these arrows stands at a -/
structure WebAt (H : Hp) (a : Addr) (n : Nat) (A : List (Addr × Int × Int)) : Prop where
  at_ : ∃ t, H a = some (.tup [.int n, .ref t]) ∧ H t = some (.tup (A.map fun p => V.ref p.1))
  each : ∀ p ∈ A, H p.1 = some (.tup [.int p.2.1, .int p.2.2])
  ok : WebOk n (arr A)
  few : A.length ≤ 36
  n1 : 1 ≤ n
  n6 : n ≤ 6
theorem WebAt.same {H H' : Hp} {a : Addr} {n : Nat} {A : List (Addr × Int × Int)} (W : WebAt H a n A) (s : Same H H') : WebAt H' a n A :=
  ⟨let ⟨t, h1, h2⟩ := W.at_; ⟨t, s _ _ h1, s _ _ h2⟩, fun p hp => s _ _ (W.each p hp), W.ok, W.few, W.n1, W.n6⟩
theorem WebAt.but {H H' : Hp} {a : Addr} {n : Nat} {A : List (Addr × Int × Int)} {r : Addr} {xs : List V} (W : WebAt H a n A) (hr : H r = some (.lst xs)) (s : SameBut r H H') : WebAt H' a n A := by
  have ne : ∀ b ys, H b = some (.tup ys) → b ≠ r := fun b ys e => ne_of e hr (fun z => nomatch z)
  exact ⟨let ⟨t, h1, h2⟩ := W.at_; ⟨t, s _ _ h1 (ne _ _ h1), s _ _ h2 (ne _ _ h2)⟩, fun p hp => s _ _ (W.each p hp) (ne _ _ (W.each p hp)), W.ok, W.few, W.n1, W.n6⟩
theorem arr_mem {A : List (Addr × Int × Int)} {x y : Int} : arr A x y = true ↔ (x, y) ∈ A.map (·.2) := decide_eq_true_iff
theorem WebAt.lamp {H : Hp} {a : Addr} {n : Nat} {A : List (Addr × Int × Int)} (W : WebAt H a n A) {p : Addr × Int × Int} (hp : p ∈ A) : (0 ≤ p.2.1 ∧ p.2.1 < n) ∧ (0 ≤ p.2.2 ∧ p.2.2 < n) ∧ p.2.1 ≠ p.2.2 := by
  have h : arr A p.2.1 p.2.2 = true := arr_mem.2 (List.mem_map.2 ⟨p, hp, rfl⟩)
  exact ⟨(W.ok.mem _ _ h).1, (W.ok.mem _ _ h).2, W.ok.ne _ _ h⟩
/-- arrows in their order -/
def Lex (A : List (Addr × Int × Int)) : Prop := (A.map (·.2)).Pairwise fun p q => p.1 < q.1 ∨ (p.1 = q.1 ∧ p.2 < q.2)
theorem small {n : Nat} (h : n ≤ 4000) : n ≤ sizeLine := Nat.le_trans h (by decide)
theorem small' {n : Nat} (h : n ≤ 4000) : n < sizeLine := Nat.lt_of_le_of_lt h (by decide)
/-! ### comprehensions -/
theorem paired_get {α β : Type} {R : α → β → Prop} : ∀ {l : List α} {m : List β}, Paired R l m → ∀ (i : Nat) (a : α), l[i]? = some a → ∃ b, m[i]? = some b ∧ R a b
  | _, _, .nil, i, a, h => by simp at h
  | _, _, .cons r t, 0, a, h => by
    simp at h
    subst h
    exact ⟨_, rfl, r⟩
  | _, _, .cons r t, i + 1, a, h => by
    obtain ⟨b, h1, h2⟩ := paired_get t i a (by simpa using h)
    exact ⟨b, by simpa using h1, h2⟩
theorem paired_fn {α β : Type} {f : α → β} : ∀ {l : List α} {m : List β}, Paired (fun a b => b = f a) l m → m = l.map f
  | _, _, .nil => rfl
  | _, _, .cons r t => by rw [List.map_cons, paired_fn t, r]
theorem lc_fm {α : Type} {J : It} {n : Nat} {G : Hp → Prop} {Y : Nat → Hp → V → Hp → Prop} (w : Walk J n G Y) (xs : List α) (f : α → V) (hn : xs.length = n) (yv : ∀ i H x H', Y i H x H' → H' = H ∧ ∃ a, xs[i]? = some a ∧ x = f a)
    (p : α → Bool) (R : α → V → Hp → Prop) {g : TG} {tt : TT} {te : TE} {vs : List Nat} {σ : L2.St} {H1 : Hp} {D : Addr} {Qd : Hp → Prop} (nD : H1 D = none) (few : xs.length ≤ 4000) (hG : ∀ H, Same H1 H → G H)
    (hR : ∀ a y H H', (∃ acc, H D = some (.lst acc)) → SameBut D H H' → R a y H → R a y H')
    (turn : ∀ a H (N : Hp → Prop), a ∈ xs → Same H1 H → (∃ acc, H D = some (.lst acc)) →
      (p a = true → ∀ H4 y, Same H H4 → R a y H4 → ∃ acc, H4 D = some (.lst acc) ∧ acc.length < sizeLine ∧ N (upd H4 D (.lst (acc ++ [y])))) → (p a = false → ∀ H3, Same H H3 → N H3) →
      g (f a) (wipe σ vs) H fun σ2 H2 => wipe σ2 vs = wipe σ vs ∧ tt σ2 H2 fun b H3 => if b = true then te σ2 H3 fun y H4 => ∃ acc, H4 D = some (.lst acc) ∧ acc.length < sizeLine ∧ N (upd H4 D (.lst (acc ++ [y]))) else N H3)
    (hd : ∀ H ys, Same H1 H → H D = some (.lst ys) → Paired (fun a y => R a y H) (xs.filter p) ys → Qd H) :
    ∃ W : Nat → Nat → Hp → Prop, (∃ m, W 0 m (upd H1 D (.lst []))) ∧ ∀ i m H, W i m H →
      (J.stop i H ∧ Qd H) ∨ (J.go i H ∧ ∃ Nx : Hp → Prop, (∀ H', Nx H' → ∃ m', m' < m ∧ W (i + 1) m' H') ∧ ∀ x H', J.yld i H x H' → g x (wipe σ vs) H' fun σ2 H2 => wipe σ2 vs = wipe σ vs ∧ tt σ2 H2 fun b H3 =>
        if b = true then te σ2 H3 fun y H4 => ∃ acc, H4 D = some (.lst acc) ∧ acc.length < sizeLine ∧ Nx (upd H4 D (.lst (acc ++ [y]))) else Nx H3) := by
  subst hn
  refine lc_it w (fun i H => Same H1 H ∧ ∃ ys, H D = some (.lst ys) ∧ Paired (fun a y => R a y H) ((xs.take i).filter p) ys) ⟨same_new nD, [], upd_same, .nil⟩ (fun i H _ ⟨s, _⟩ => hG H s) (fun i x H H' hi ⟨s, ys, hD, pr⟩ y => ?_) (fun H ⟨s, ys, hD, pr⟩ => hd H ys s hD (by rwa [List.take_length] at pr))
  obtain ⟨rfl, a, ha, rfl⟩ := yv i H x H' y
  have ea : xs.take (i + 1) = xs.take i ++ [a] := by rw [List.take_add_one, ha]; rfl
  have hlen : ys.length ≤ i := by
    rw [← Paired.length pr]
    exact Nat.le_trans (List.length_filter_le _ _) (by rw [List.length_take]; omega)
  refine turn a H' _ (List.mem_of_getElem? ha) s ⟨ys, hD⟩ (fun hp H4 v s4 r4 => ?_) (fun hp H3 s3 => ?_)
  · have hD4 := s4 _ _ hD
    refine ⟨ys, hD4, small' (by omega), fun b o e => ?_, ys ++ [v], upd_same, ?_⟩
    · rw [upd_ne (ne_of_none e nD)]
      exact s4 b o (s b o e)
    · rw [ea, List.filter_append, List.filter_cons_of_pos hp, List.filter_nil]
      refine Paired.snoc (L2.Paired.mapP pr fun a y h => ?_) ?_
      · exact hR a y _ _ ⟨ys, hD4⟩ SameBut.upd (hR a y _ _ ⟨ys, hD⟩ (same_but s4 D) h)
      · exact hR a v _ _ ⟨ys, hD4⟩ SameBut.upd r4
  · refine ⟨s.trans s3, ys, s3 _ _ hD, ?_⟩
    rw [ea, List.filter_append, List.filter_cons_of_neg (by rw [hp]; exact Bool.false_ne_true), List.filter_nil, List.append_nil]
    exact L2.Paired.mapP pr fun a y h => hR a y _ _ ⟨ys, hD⟩ (same_but s3 D) h
/-- the same over a tuple, over a list, over a range: what each gives -/
theorem yat_of {α : Type} {xs : List α} {f : α → V} {i : Nat} {H H' : Hp} {x : V} (y : YAt (xs.map f) i H x H') : H' = H ∧ ∃ a, xs[i]? = some a ∧ x = f a := by
  obtain ⟨h1, h2⟩ := y
  rw [List.getElem?_map] at h2
  obtain ⟨a, ha, e⟩ := Option.map_eq_some_iff.1 h2
  exact ⟨h1, a, ha, e.symm⟩
/-! ### data -/
section
variable {K : PySem.W.Frag} {H : Hp}
theorem dpAll_ints : ∀ ns : List Int, DpAll K H (ns.map V.int) (ns.map PyData.int)
  | [] => .nil
  | n :: r => .cons (.int n) (dpAll_ints r)
theorem dp_li {a : Addr} {ns : List Int} (h : SqL K H a (ns.map V.int)) : Dp K H (.ref a) (.list (ns.map PyData.int)) := .lst h (dpAll_ints ns)
theorem dp_ti {a : Addr} {ns : List Int} (h : SqT K H a (ns.map V.int)) : Dp K H (.ref a) (tupD ns) := .tup h (dpAll_ints ns)
theorem dpAll_tups : ∀ {bs : List (Addr × List Int)}, (∀ p ∈ bs, TI H p.1 p.2) → DpAll K H (bs.map fun p => V.ref p.1) (bs.map fun p => tupD p.2)
  | [], _ => .nil
  | p :: r, h => .cons (dp_ti (.of (h p List.mem_cons_self))) (dpAll_tups fun q hq => h q (List.mem_cons_of_mem _ hq))
end
theorem lay_ints : ∀ ns : List Int, PyData.canLayAll0 (ns.map .int) = true
  | [] => by simp [PyData.canLayAll0]
  | n :: r => by simp [PyData.canLayAll0, PyData.canLay0, lay_ints r]
theorem shaped_list {ds : List PyData} (h1 : PyData.canLayAll0 ds = true) (h2 : PyData.depthAll ds ≤ 60) : SeqAt.shaped (.list ds) = true := by
  show (PyData.canLay0 (.list ds) && decide (PyData.depth (.list ds) ≤ 64)) = true
  rw [Bool.and_eq_true]
  exact ⟨by simpa [PyData.canLay0] using h1, decide_eq_true (by simp [PyData.depth]; omega)⟩
theorem shaped_tuple {ds : List PyData} (h1 : PyData.canLayAll0 ds = true) (h2 : PyData.depthAll ds ≤ 60) : SeqAt.shaped (.tuple ds) = true := by
  show (PyData.canLay0 (.tuple ds) && decide (PyData.depth (.tuple ds) ≤ 64)) = true
  rw [Bool.and_eq_true]
  exact ⟨by simpa [PyData.canLay0] using h1, decide_eq_true (by simp [PyData.depth]; omega)⟩
theorem shaped_li (ns : List Int) : SeqAt.shaped (.list (ns.map PyData.int)) = true := shaped_list (lay_ints ns) (by rw [tupD_depth]; omega)
theorem shaped_ti (ns : List Int) : SeqAt.shaped (tupD ns) = true := shaped_tuple (lay_ints ns) (by rw [tupD_depth]; omega)
theorem lay_tups : ∀ Ss : List (List Int), PyData.canLayAll0 (Ss.map tupD) = true
  | [] => by simp [PyData.canLayAll0]
  | n :: r => by simp [PyData.canLayAll0, PyData.canLay0, tupD, lay_ints, lay_tups r]
theorem depth_tups : ∀ Ss : List (List Int), PyData.depthAll (Ss.map tupD) ≤ 1
  | [] => by simp [PyData.depthAll]
  | n :: r => by
    have := depth_tups r
    simp [PyData.depthAll, PyData.depth, tupD, tupD_depth]
    omega
theorem shaped_lt (bs : List (Addr × List Int)) : SeqAt.shaped (.list (bs.map fun p => tupD p.2)) = true := by
  have e : (bs.map fun p => tupD p.2) = (bs.map (·.2)).map tupD := by rw [List.map_map]; rfl
  rw [e]
  exact shaped_list (lay_tups _) (Nat.le_trans (depth_tups _) (by decide))
theorem eqv_nil : ∀ ds : List PyData, PyData.eqv (.list ds) (.list []) = ds.isEmpty
  | [] => by simp [PyData.eqv, PyData.eqvAll]
  | _ :: _ => by simp [PyData.eqv, PyData.eqvAll]
theorem eqvAll_ints : ∀ ns ms : List Int, PyData.eqvAll (ns.map .int) (ms.map .int) = decide (ns = ms)
  | [], [] => by simp [PyData.eqvAll]
  | [], _ :: _ => by simp [PyData.eqvAll]
  | _ :: _, [] => by simp [PyData.eqvAll]
  | n :: r, m :: t => by
    simp [PyData.eqvAll, PyData.eqv, eqvAll_ints r t]
    by_cases h : n = m <;> simp [h]
theorem eqv_ti (S T : List Int) : PyData.eqv (tupD S) (tupD T) = decide (S = T) := by
  show PyData.eqv (.tuple _) (.tuple _) = _
  simp only [PyData.eqv]
  exact eqvAll_ints S T
section
variable {X : Cx}
/-- x in a tuple of data -/
def rInDT (K : PySem.W.Frag) : R2 := fun x y H Q => ∃ d ds, Dp K H x d ∧ Dp K H y (.tuple ds) ∧ SeqAt.shaped d = true ∧ SeqAt.shaped (.tuple ds) = true ∧ Q (.bl (ds.any fun z => PyData.eqv z d)) H
theorem op_inDT (hu : X.A.units + 65 < cLine) : OpR X (compareOp .In) (rInDT X.K) := fun pins s σ H x y v u Q I rx ry ⟨d, ds, hd, he, sd, se, q⟩ => by
  have ⟨as, r1⟩ := Dp.reads I d x v hd rx
  have ⟨bs, r2⟩ := Dp.reads I (.tuple ds) y u he ry
  exact SeqAt.in_tuple_reads r2 r1 (SeqAt.canLay_of_shaped se) (SeqAt.canLay_of_shaped sd) (room_in_shaped sd hu) ⟨.bl _, H, I, rfl, q⟩
theorem hu65 {k : Nat} {A : Around} (hr : Room k A) : A.units + 65 < cLine := by have := hr.un; omega
end
/-! ### rules with the written part named (within a comprehension's block) -/
section
variable {X : Cx} (K : PySem.W.Frag)
theorem op_in_seqK (h : X.K = K := by rfl) : OpR X (compareOp .In) (rIn K false) := by subst h; exact op_in_seq
theorem op_notIn_seqK (h : X.K = K := by rfl) : OpR X (compareOp .NotIn) (rIn K true) := by subst h; exact op_notIn_seq
theorem op_inDTK (hu : X.A.units + 65 < cLine) (h : X.K = K := by rfl) : OpR X (compareOp .In) (rInDT K) := by subst h; exact op_inDT hu
theorem op_neDK (hu : X.A.units + 64 < cLine) (h : X.K = K := by rfl) : OpR X (compareOp .NotEq) (rNeD K) := by subst h; exact op_neD hu
theorem op_eqDK (hu : X.A.units + 64 < cLine) (h : X.K = K := by rfl) : OpR X (compareOp .Eq) (rEqD K) := by subst h; exact op_eqD hu
theorem ix_tupK (h : X.K = K := by rfl) : IxR X (rIxT K) := by subst h; exact ix_tup
theorem ix_listK (h : X.K = K := by rfl) : IxR X (rIxL K) := by subst h; exact ix_list
theorem pi_tupK {tg l : Expr} {tl : TE} (hl : PE X l tl) (h : X.K = K := by rfl) : PI X tg l (iTup K tl) := by subst h; exact pi_tup hl
end
end Pl


set_option Elab.async false
set_option linter.all false
set_option maxRecDepth 100000
set_option maxHeartbeats 4000000
namespace Pl
open PySem PySem.Spec PyProof.Rows L2 Pr
abbrev s_is_in : Stmt := topS 5
theorem sc_is_in : FnScope ["value", "least", "most"] ["value", "least", "most"] (defScope s_is_in) := ⟨rfl, rfl, rfl, by decide +kernel, rfl, by decide +kernel, by decide +kernel⟩
abbrev s_is_arrow : Stmt := topS 8
theorem sc_is_arrow : FnScope ["value", "many", "one"] ["value", "many"] (defScope s_is_arrow) := ⟨rfl, rfl, rfl, by decide +kernel, rfl, by decide +kernel, by decide +kernel⟩
abbrev s_need_web : Stmt := topS 9
theorem sc_need_web : FnScope ["web", "index", "one"] ["web"] (defScope s_need_web) := ⟨rfl, rfl, rfl, by decide +kernel, rfl, by decide +kernel, by decide +kernel⟩
abbrev s_need_burning : Stmt := topS 10
theorem sc_need_burning : FnScope ["web", "burning", "index", "one"] ["web", "burning"] (defScope s_need_burning) := ⟨rfl, rfl, rfl, by decide +kernel, rfl, by decide +kernel, by decide +kernel⟩
abbrev s_need_both : Stmt := topS 11
theorem sc_need_both : FnScope ["web", "burning"] ["web", "burning"] (defScope s_need_both) := ⟨rfl, rfl, rfl, by decide +kernel, rfl, by decide +kernel, by decide +kernel⟩
abbrev s_need_two : Stmt := topS 23
theorem sc_need_two : FnScope ["web", "one", "other"] ["web", "one", "other"] (defScope s_need_two) := ⟨rfl, rfl, rfl, by decide +kernel, rfl, by decide +kernel, by decide +kernel⟩
section
variable {P : Program} {w : World} {K : PySem.W.Frag} {mg : Str → Option Value} {base : Heap}
def sp_is_in : Sp := fun vs H Q _ => ∃ v lo hi : Int, vs = [.int v, .int lo, .int hi] ∧ Q (.bl (decide (lo ≤ v) && decide (v ≤ hi))) H
theorem ok_is_in (T : Bi mg) (D : Has K mg "is_in" s_is_in ["value", "least", "most"]) : Cal P w K mg base 1 "is_in" ["value", "least", "most"] sp_is_in := by
  refine Cal.of D sc_is_in (fun vs H Q E h => ?_) (fun f cdv A outer s H vs Q E hr h => ?_)
  · obtain ⟨v, lo, hi, rfl, _⟩ := h
    rfl
  · obtain ⟨v, lo, hi, rfl, q⟩ := h
    refine ⟨_, pss_one (ps_ret (pe_and (pe_isi T.isinstance T.int boot_int (pv 0)) (pe_and (pe_not (pe_isi T.isinstance T.bool boot_bool (pv 0))) (pe_one (pe_chain op_le op_le (pv 1) (pv 0) (pv 2)))))), ?_⟩
    refine ⟨.int v, rfl, _, _, _, true, rfl, .base (.int v), by decide +kernel, true, rfl, iteT ?_⟩
    refine ⟨.int v, rfl, _, _, _, false, rfl, .base (.int v), by decide +kernel, false, rfl, true, rfl, iteT ?_⟩
    refine ⟨.int lo, rfl, .int v, rfl, lo, v, rfl, rfl, decide (lo ≤ v), rfl, ite2 (fun h1 => ?_) (fun h1 => ?_)⟩
    · rw [h1, Bool.true_and] at q
      exact ⟨.int hi, rfl, v, hi, rfl, rfl, q⟩
    · rw [Bool.eq_false_iff.2 h1, Bool.false_and] at q
      exact q
def sp_is_arrow : Sp := fun vs H Q _ => ∃ (p : Addr) (x y n : Int), vs = [.ref p, .int n] ∧ TI H p [x, y] ∧ (0 ≤ x ∧ x < n) ∧ (0 ≤ y ∧ y < n) ∧ x ≠ y ∧ ∀ H', Same H H' → Q (.bl true) H'
theorem ok_is_arrow (T : Bi mg) (D : Has K mg "is_arrow" s_is_arrow ["value", "many"]) (C_is_in : Cal P w K mg base 1 "is_in" ["value", "least", "most"] sp_is_in) : Cal P w K mg base 2 "is_arrow" ["value", "many"] sp_is_arrow := by
  refine Cal.of D sc_is_arrow (fun vs H Q E h => ?_) (fun f cdv A outer s H vs Q E hr h => ?_)
  · obtain ⟨p, x, y, n, rfl, _⟩ := h
    rfl
  · obtain ⟨p, x, y, n, rfl, hp, hx, hy, hne, q⟩ := h
    have hp : H p = some (.tup [.int x, .int y]) := hp
    refine ⟨_, pss_cons (ps_if (PW.pt (pw_or (pt_not (pt_val (pe_isi T.isinstance T.tuple boot_tuple (pv 0)))) (pw_or1 (pt_cmpR op_ne (pe_callB call_len_seq (by rfl) T.len PySem.boot_len (pa_cons (pv 0) pa_nil)) pe_int (nomark _))))) (pss_one (ps_ret pe_bl)) pss_nil)
      (pss_one (ps_ret (pe_and (pe_cmpR (op_eqD hr.units) 
        (pe_lc (own := [("one", 2)]) (g := gName 2) rfl sc_is_arrow.nd (pi_tup (pv 0)) (blkOk_by (own := [("one", 2)]) (N := ["value", "many", "one"]) (sc := defScope s_is_arrow) (by decide +kernel))
          (fun _ _ _ _ _ => (pg_name (i := 2) sc_is_arrow.nd rfl (.inl rfl))) (fun _ _ _ _ _ => (pts_one (pt_not (pt_val (pe_cal C_is_in (hr.mono (by decide)) (by rfl) (pa_cons (pv 2) (pa_cons pe_int (pa_cons (pe_op op_sub (pv 1) pe_int) pa_nil)))))))) (fun _ _ _ _ _ => (pv 2))) (pe_lst pa_nil) (nomark _)) (pe_one (pe_cmpR op_ne (pe_ix ix_tup (pv 0) pe_int (fun _ _ => rfl)) (pe_ix ix_tup (pv 0) pe_int (fun _ _ => rfl)) (nomark _)))))), ?_⟩
    -- isinstance(value, tuple), len(value)
    refine ⟨.ref p, rfl, _, _, _, true, rfl, .base (.tup hp), by decide +kernel, true, rfl, ?_⟩
    refine iteF ⟨.ref p, rfl, p, _, rfl, .inr (SqT.of hp), rfl, _, rfl, ?_⟩
    refine iteF ?_
    -- the comprehension
    refine ⟨.ref p, rfl, p, rfl, ⟨_, SqT.of hp⟩, fun L nL => ?_⟩
    refine lc_fm walk_tup [x, y] V.int rfl (fun i H x H' y => yat_of y) (fun _ => false) (fun _ _ _ => False) nL (by simp) (fun H2 s2 => SqT.of (s2 _ _ hp)) (fun _ _ _ _ _ _ h => h) (fun z H2 N hz s2 hL hN1 hN2 => ?_) (fun H2 ys s2 hL pr => ?_)
    · have hz2 : 0 ≤ z ∧ z ≤ n - 1 := by
        rcases List.mem_cons.1 hz with rfl | hz
        · omega
        · rcases List.mem_cons.1 hz with rfl | hz
          · omega
          · cases hz
      refine ⟨rfl, ?_⟩
      refine ⟨.int z, rfl, .int n, rfl, n, 1, rfl, rfl, z, 0, n - 1, rfl, _, rfl, ?_⟩
      rw [decide_eq_true hz2.1, decide_eq_true hz2.2]
      exact iteF (hN2 rfl H2 (Same.refl H2))
    · cases pr
      refine ⟨Nat.zero_le _, fun M nM => ?_⟩
      have s3 : Same H2 (upd H2 M (.lst [])) := same_new nM
      refine ⟨.list [], .list [], .lst (.inl (.inl (s3 _ _ hL))) .nil, .lst (.inl (.inl upd_same)) .nil, rfl, rfl, _, rfl, iteT ?_⟩
      have hp3 := s3 _ _ (s2 _ _ hp)
      refine ⟨.ref p, rfl, p, _, 0, .int x, rfl, rfl, SqT.of hp3, atI_nat (j := 0) rfl, .ref p, rfl, p, _, 1, .int y, rfl, rfl, SqT.of hp3, atI_nat (j := 1) rfl, rfl, ?_⟩
      have e : decide (V.int x = V.int y) = false := decide_eq_false fun z => hne (V.int.inj z)
      rw [e]
      exact q _ (s2.trans s3)
def sp_need_web : Sp := fun vs H Q _ => ∃ (a : Addr) (n : Nat) (A : List (Addr × Int × Int)), vs = [.ref a] ∧ WebAt H a n A ∧ Lex A ∧ ∀ H', Same H H' → Q .non H'
theorem ok_need_web (T : Bi mg) (D : Has K mg "need_web" s_need_web ["web"]) (C_is_in : Cal P w K mg base 1 "is_in" ["value", "least", "most"] sp_is_in) (C_is_arrow : Cal P w K mg base 2 "is_arrow" ["value", "many"] sp_is_arrow) : Cal P w K mg base 3 "need_web" ["web"] sp_need_web := by
  refine Cal.of D sc_need_web (fun vs H Q E h => ?_) (fun f cdv A0 outer s H vs Q E hr h => ?_)
  · obtain ⟨a, n, A, rfl, _⟩ := h
    rfl
  · obtain ⟨a, n, A, rfl, W, hx, q⟩ := h
    obtain ⟨t, ha, ht⟩ := W.at_
    obtain ⟨tm, hmost⟩ := T.most
    have h1 := W.n1
    have h6 := W.n6
    refine ⟨_, pss_cons (ps_if (PW.pt (pw_or (pt_not (pt_val (pe_isi T.isinstance T.tuple boot_tuple (pv 0)))) (pw_or (pt_cmpR op_ne (pe_callB call_len_seq (by rfl) T.len PySem.boot_len (pa_cons (pv 0) pa_nil)) pe_int (nomark _)) (pw_or1 (pt_not (pt_val (pe_isi T.isinstance T.tuple boot_tuple (pe_ix ix_tup (pv 0) pe_int (fun _ _ => rfl))))))))) pss_never pss_nil)
      (pss_cons (ps_if (pt_not (pt_val (pe_cal C_is_in (hr.mono (by decide)) (by rfl) (pa_cons (pe_ix ix_tup (pv 0) pe_int (fun _ _ => rfl)) (pa_cons pe_int (pa_cons (pe_glob (v := .int 9) (by rfl) hmost ⟨_, rfl⟩) pa_nil)))))) pss_never pss_nil)
      (pss_one (ps_for PassesOwn.never rfl (pi_enumT (by rfl) T.enumerate (pa_cons (pe_ix ix_tup (pv 0) pe_int (fun _ _ => rfl)) pa_nil)) (pg_tup rfl (pgs_cons (pg_name (i := 1) sc_need_web.nd rfl (.inl rfl)) (pgs_cons (pg_name (i := 2) sc_need_web.nd rfl (.inl rfl)) pgs_nil)))
      (pss_one (ps_if (PW.pt (pw_or (pt_not (pt_val (pe_cal C_is_arrow (hr.mono (by decide)) (by rfl) (pa_cons (pv 2) (pa_cons (pe_ix ix_tup (pv 0) pe_int (fun _ _ => rfl)) pa_nil))))) (pw_or1 (PW.pt (pw_and (pt_cmpR op_gt (pv 1) pe_int (nomark _)) (pw_and1 (pt_cmpR (op_leT hr.units0) (pv 2) (pe_ix ix_tup (pe_ix ix_tup (pv 0) pe_int (fun _ _ => rfl)) (pe_op op_sub (pv 1) pe_int) (fun _ _ => rfl)) (nomark _)))))))) pss_never pss_nil))))), ?_⟩
    refine ⟨.ref a, rfl, _, _, _, true, rfl, .base (.tup ha), by decide +kernel, true, rfl, iteF ?_⟩
    refine ⟨.ref a, rfl, a, _, rfl, .inr (SqT.of ha), rfl, _, rfl, iteF ?_⟩
    refine ⟨.ref a, rfl, a, _, 1, .ref t, rfl, rfl, SqT.of ha, atI_nat (j := 1) rfl, _, _, _, true, rfl, .base (.tup ht), by decide +kernel, true, rfl, iteF ?_⟩
    refine ⟨.ref a, rfl, a, _, 0, .int n, rfl, rfl, SqT.of ha, atI_nat (j := 0) rfl, n, 1, 9, rfl, _, rfl, ?_⟩
    rw [decide_eq_true (show (1 : Int) ≤ n by omega), decide_eq_true (show (n : Int) ≤ 9 by omega)]
    refine iteF ?_
    refine ⟨.ref a, rfl, a, _, 1, .ref t, rfl, rfl, SqT.of ha, atI_nat (j := 1) rfl, t, _, rfl, SqT.of ht, ?_⟩
    refine for_it walk_enumT (fun i σ H2 => ∃ y1 y2, σ = [some (.ref a), y1, y2] ∧ Same H H2) ⟨none, none, rfl, Same.refl H⟩ (fun i σ H2 _ ⟨_, _, _, s2⟩ => SqT.of (s2 _ _ ht)) (fun i x σ H2 H3 hi ⟨y1, y2, e, s2⟩ y => ?_) (fun σ H2 ⟨y1, y2, e, s2⟩ => q H2 s2)
    subst e
    obtain ⟨Z, x1, x2, rfl, nZ, rfl, e1, e2⟩ := y
    cases e1
    have s3 : Same H2 (upd H2 Z (.tup [.int (i : Nat), x2])) := same_new nZ
    have hi : i < A.length := by simpa using hi
    have e2 : some (V.ref A[i].1) = some x2 := by
      rw [← e2]
      show _ = (A.map fun p => V.ref p.1)[i]?
      rw [List.getElem?_map, List.getElem?_eq_getElem hi]
      rfl
    cases e2
    have hm : A[i] ∈ A := List.getElem_mem hi
    have hA := s3 _ _ (s2 _ _ (W.each _ hm))
    obtain ⟨b1, b2, b3⟩ := W.lamp hm
    have s23 := s2.trans s3
    refine ⟨Z, _, rfl, SqT.of upd_same, rfl, _, _, rfl, _, _, rfl, rfl, ?_⟩
    refine ⟨.ref A[i].1, rfl, .ref a, rfl, a, _, 0, .int n, rfl, rfl, SqT.of (s23 _ _ ha), atI_nat (j := 0) rfl, A[i].1, A[i].2.1, A[i].2.2, n, rfl, hA, b1, b2, b3, fun H4 s4 => ⟨true, rfl, iteF ?_⟩⟩
    have s24 := s23.trans s4
    refine ⟨.int (i : Nat), rfl, (i : Nat), 0, rfl, rfl, _, rfl, ite2 (fun h0 => ?_) (fun h0 => iteF ⟨_, _, rfl, s24⟩)⟩
    have h0 : (0 : Int) < (i : Nat) := of_decide_eq_true h0
    have hi1 : i - 1 < A.length := by omega
    have hm1 : A[i - 1] ∈ A := List.getElem_mem hi1
    refine ⟨.ref A[i].1, rfl, .ref a, rfl, a, _, 1, .ref t, rfl, rfl, SqT.of (s24 _ _ ha), atI_nat (j := 1) rfl, .int (i : Nat), rfl, (i : Nat), 1, rfl, rfl, t, _, (i : Nat) - 1, .ref A[i - 1].1, rfl, rfl, SqT.of (s24 _ _ ht), at_of (j := i - 1) (by omega) ?_, ?_⟩
    · rw [List.getElem?_map, List.getElem?_eq_getElem hi1]
      rfl
    · refine ⟨A[i].1, A[i - 1].1, [A[i].2.1, A[i].2.2], [A[i - 1].2.1, A[i - 1].2.2], rfl, rfl, SqT.of (s4 _ _ hA), SqT.of (s24 _ _ (W.each _ hm1)), _, rfl, ?_⟩
      have hl := List.pairwise_iff_getElem.1 hx (i - 1) i (by simpa using hi1) (by simpa using hi) (by omega)
      rw [List.getElem_map, List.getElem_map] at hl
      have e : Ob.lexAt (fun j => decide (([A[i].2.1, A[i].2.2] : List Int).getD j 0 = ([A[i - 1].2.1, A[i - 1].2.2] : List Int).getD j 0)) (fun j => decide (([A[i].2.1, A[i].2.2] : List Int).getD j 0 ≤ ([A[i - 1].2.1, A[i - 1].2.2] : List Int).getD j 0)) (decide (2 ≤ 2)) 0 2 = false := by
        simp only [Ob.lexAt_succ, Ob.lexAt_zero, List.getD_cons_zero, List.getD_cons_succ, decide_eq_true_eq]
        split
        · rename_i q1
          rw [if_neg (by omega)]
          exact decide_eq_false (by omega)
        · rename_i q1
          exact decide_eq_false (by omega)
      show if (Ob.lexAt _ _ (decide (2 ≤ 2)) 0 2) = true then _ else _
      rw [e]
      exact iteF ⟨_, _, rfl, s24⟩
def sp_need_burning : Sp := fun vs H Q _ => ∃ (a b : Addr) (n : Nat) (A : List (Addr × Int × Int)) (S : List Int), vs = [.ref a, .ref b] ∧ WebAt H a n A ∧ TI H b S ∧ St n S ∧ ∀ H', Same H H' → Q .non H'
theorem ok_need_burning (T : Bi mg) (D : Has K mg "need_burning" s_need_burning ["web", "burning"]) (C_is_in : Cal P w K mg base 1 "is_in" ["value", "least", "most"] sp_is_in) : Cal P w K mg base 2 "need_burning" ["web", "burning"] sp_need_burning := by
  refine Cal.of D sc_need_burning (fun vs H Q E h => ?_) (fun f cdv A0 outer s H vs Q E hr h => ?_)
  · obtain ⟨a, b, n, A, S, rfl, _⟩ := h
    rfl
  · obtain ⟨a, b, n, A, S, rfl, W, hb, hS, q⟩ := h
    obtain ⟨t, ha, ht⟩ := W.at_
    refine ⟨_, pss_cons (ps_if (pt_not (pt_val (pe_isi T.isinstance T.tuple boot_tuple (pv 1)))) pss_never pss_nil)
      (pss_one (ps_for PassesOwn.never rfl (pi_enumT (by rfl) T.enumerate (pa_cons (pv 1) pa_nil)) (pg_tup rfl (pgs_cons (pg_name (i := 2) sc_need_burning.nd rfl (.inl rfl)) (pgs_cons (pg_name (i := 3) sc_need_burning.nd rfl (.inl rfl)) pgs_nil)))
      (pss_one (ps_if (PW.pt (pw_or (pt_not (pt_val (pe_cal C_is_in (hr.mono (by decide)) (by rfl) (pa_cons (pv 3) (pa_cons pe_int (pa_cons (pe_op op_sub (pe_ix ix_tup (pv 0) pe_int (fun _ _ => rfl)) pe_int) pa_nil)))))) (pw_or1 (PW.pt (pw_and (pt_cmpR op_gt (pv 2) pe_int (nomark _)) (pw_and1 (pt_cmpR op_le (pv 3) (pe_ix ix_tup (pv 1) (pe_op op_sub (pv 2) pe_int) (fun _ _ => rfl)) (nomark _)))))))) pss_never pss_nil)))), ?_⟩
    refine ⟨.ref b, rfl, _, _, _, true, rfl, .base (.tup hb), by decide +kernel, true, rfl, iteF ?_⟩
    refine ⟨.ref b, rfl, b, _, rfl, SqT.of hb, ?_⟩
    refine for_it walk_enumT (fun i σ H2 => ∃ y1 y2, σ = [some (.ref a), some (.ref b), y1, y2] ∧ Same H H2) ⟨none, none, rfl, Same.refl H⟩ (fun i σ H2 _ ⟨_, _, _, s2⟩ => SqT.of (s2 _ _ hb)) (fun i x σ H2 H3 hi ⟨y1, y2, e, s2⟩ y => ?_) (fun σ H2 ⟨y1, y2, e, s2⟩ => q H2 s2)
    subst e
    obtain ⟨Z, x1, x2, rfl, nZ, rfl, e1, e2⟩ := y
    cases e1
    have s3 : Same H2 (upd H2 Z (.tup [.int (i : Nat), x2])) := same_new nZ
    have hi : i < S.length := by simpa using hi
    have e2 : some (V.int S[i]) = some x2 := by
      rw [← e2]
      show _ = (S.map V.int)[i]?
      rw [List.getElem?_map, List.getElem?_eq_getElem hi]
      rfl
    cases e2
    have s23 := s2.trans s3
    have hm := hS.mem S[i] (List.getElem_mem hi)
    refine ⟨Z, _, rfl, SqT.of upd_same, rfl, _, _, rfl, _, _, rfl, rfl, ?_⟩
    refine ⟨.int S[i], rfl, .ref a, rfl, a, _, 0, .int n, rfl, rfl, SqT.of (s23 _ _ ha), atI_nat (j := 0) rfl, n, 1, rfl, rfl, S[i], 0, n - 1, rfl, _, rfl, ?_⟩
    rw [decide_eq_true hm.1, decide_eq_true (show S[i] ≤ (n : Int) - 1 by omega)]
    refine iteF ?_
    refine ⟨.int (i : Nat), rfl, (i : Nat), 0, rfl, rfl, _, rfl, ite2 (fun h0 => ?_) (fun h0 => iteF ⟨_, _, rfl, s23⟩)⟩
    have h0 : (0 : Int) < (i : Nat) := of_decide_eq_true h0
    have hi1 : i - 1 < S.length := by omega
    refine ⟨.int S[i], rfl, .ref b, rfl, .int (i : Nat), rfl, (i : Nat), 1, rfl, rfl, b, _, (i : Nat) - 1, .int S[i - 1], rfl, rfl, SqT.of (s23 _ _ hb), at_of (j := i - 1) (by omega) ?_, S[i], S[i - 1], rfl, rfl, _, rfl, ?_⟩
    · rw [List.getElem?_map, List.getElem?_eq_getElem hi1]
      rfl
    · have hl := List.pairwise_iff_getElem.1 hS.asc (i - 1) i hi1 hi (by omega)
      rw [decide_eq_false (show ¬ S[i] ≤ S[i - 1] by omega)]
      exact iteF ⟨_, _, rfl, s23⟩
def sp_need_both : Sp := fun vs H Q _ => ∃ (a b : Addr) (n : Nat) (A : List (Addr × Int × Int)) (S : List Int), vs = [.ref a, .ref b] ∧ WebAt H a n A ∧ Lex A ∧ TI H b S ∧ St n S ∧ ∀ H', Same H H' → Q .non H'
theorem ok_need_both (D : Has K mg "need_both" s_need_both ["web", "burning"]) (C_need_web : Cal P w K mg base 3 "need_web" ["web"] sp_need_web) (C_need_burning : Cal P w K mg base 2 "need_burning" ["web", "burning"] sp_need_burning) : Cal P w K mg base 4 "need_both" ["web", "burning"] sp_need_both := by
  refine Cal.of D sc_need_both (fun vs H Q E h => ?_) (fun f cdv A0 outer s H vs Q E hr h => ?_)
  · obtain ⟨a, b, n, A, S, rfl, _⟩ := h
    rfl
  · obtain ⟨a, b, n, A, S, rfl, W, hx, hb, hS, q⟩ := h
    refine ⟨_, pss_cons (ps_expr (pe_cal C_need_web (hr.mono (by decide)) (by rfl) (pa_cons (pv 0) pa_nil)))
      (pss_one (ps_expr (pe_cal C_need_burning (hr.mono (by decide)) (by rfl) (pa_cons (pv 0) (pa_cons (pv 1) pa_nil))))), ?_⟩
    refine ⟨.ref a, rfl, a, n, A, rfl, W, hx, fun H2 s2 => ?_⟩
    exact ⟨.ref a, rfl, .ref b, rfl, a, b, n, A, S, rfl, W.same s2, s2 _ _ hb, hS, fun H3 s3 => q H3 (s2.trans s3)⟩
def sp_need_two : Sp := fun vs H Q _ => ∃ (a b c : Addr) (n : Nat) (A : List (Addr × Int × Int)) (S U : List Int), vs = [.ref a, .ref b, .ref c] ∧ WebAt H a n A ∧ Lex A ∧ TI H b S ∧ St n S ∧ TI H c U ∧ St n U ∧ ∀ H', Same H H' → Q .non H'
theorem ok_need_two (D : Has K mg "need_two" s_need_two ["web", "one", "other"]) (C_need_both : Cal P w K mg base 4 "need_both" ["web", "burning"] sp_need_both) (C_need_burning : Cal P w K mg base 2 "need_burning" ["web", "burning"] sp_need_burning) : Cal P w K mg base 5 "need_two" ["web", "one", "other"] sp_need_two := by
  refine Cal.of D sc_need_two (fun vs H Q E h => ?_) (fun f cdv A0 outer s H vs Q E hr h => ?_)
  · obtain ⟨a, b, c, n, A, S, U, rfl, _⟩ := h
    rfl
  · obtain ⟨a, b, c, n, A, S, U, rfl, W, hx, hb, hS, hc, hU, q⟩ := h
    refine ⟨_, pss_cons (ps_expr (pe_cal C_need_both (hr.mono (by decide)) (by rfl) (pa_cons (pv 0) (pa_cons (pv 1) pa_nil))))
      (pss_one (ps_expr (pe_cal C_need_burning (hr.mono (by decide)) (by rfl) (pa_cons (pv 0) (pa_cons (pv 2) pa_nil))))), ?_⟩
    refine ⟨.ref a, rfl, .ref b, rfl, a, b, n, A, S, rfl, W, hx, hb, hS, fun H2 s2 => ?_⟩
    exact ⟨.ref a, rfl, .ref c, rfl, a, c, n, A, U, rfl, W.same s2, s2 _ _ hc, hU, fun H3 s3 => q H3 (s2.trans s3)⟩
end
end Pl


set_option Elab.async false
set_option linter.all false
set_option maxRecDepth 100000
set_option maxHeartbeats 4000000
namespace Pl
open PySem PySem.Spec PyProof.Rows L2 Pr
abbrev s_led_from : Stmt := topS 12
theorem sc_led_from : FnScope ["web", "some", "found", "rows", "here", "one", "other"] ["web", "some"] (defScope s_led_from) := ⟨rfl, rfl, rfl, by decide +kernel, rfl, by decide +kernel, by decide +kernel⟩
abbrev s_turned_in : Stmt := topS 13
theorem sc_turned_in : FnScope ["web", "one", "other"] ["web"] (defScope s_turned_in) := ⟨rfl, rfl, rfl, by decide +kernel, rfl, by decide +kernel, by decide +kernel⟩
abbrev s_comes_in : Stmt := topS 20
theorem sc_comes_in : FnScope ["web", "one", "other", "front", "back", "k"] ["web", "one", "other"] (defScope s_comes_in) := ⟨rfl, rfl, rfl, by decide +kernel, rfl, by decide +kernel, by decide +kernel⟩
theorem flat_ints : ∀ ns : List Int, (ns.map V.int).all flatV = true
  | [] => rfl
  | n :: r => by simp [flatV, flat_ints r]
theorem inV_ints (k : Int) : ∀ ns : List Int, inV (.int k) (ns.map V.int) = decide (k ∈ ns)
  | [] => by simp [inV]
  | n :: r => by
    have ih := inV_ints k r
    unfold inV at ih ⊢
    rw [List.map_cons, List.any_cons, ih]
    by_cases h : n = k
    · simp [eqV, h]
    · have : ¬ k = n := fun e => h e.symm
      simp [eqV, h, this]
/-! ### what is led to -/
structure LedI (n : Nat) (E : Int → Int → Bool) (S F R : List Int) : Prop where
  nd : F.Nodup
  mem : ∀ k ∈ F, 0 ≤ k ∧ k < n
  sub : ∀ k ∈ S, k ∈ F
  fr : ∀ k ∈ F, Front E S k
  rs : ∀ k ∈ R, k ∈ F
  cl : ∀ x ∈ F, x ∉ R → ∀ y, E x y = true → y ∈ F
structure LedJ (n : Nat) (E : Int → Int → Bool) (S F R : List Int) (h : Int) (B : List (Addr × Int × Int)) : Prop where
  nd : F.Nodup
  mem : ∀ k ∈ F, 0 ≤ k ∧ k < n
  sub : ∀ k ∈ S, k ∈ F
  fr : ∀ k ∈ F, Front E S k
  rs : ∀ k ∈ R, k ∈ F
  cl : ∀ x ∈ F, x ∉ R → x ≠ h → ∀ y, E x y = true → y ∈ F
  hF : h ∈ F
  hc : ∀ p ∈ B, p.2.1 = h → p.2.2 ∈ F
theorem led_start {n : Nat} {E : Int → Int → Bool} {S : List Int} (hS : St n S) : LedI n E S S S := ⟨asc_nodup hS.asc, hS.mem, fun _ h => h, fun k h => ⟨k, h, .refl⟩, fun _ h => h, fun x h1 h2 => absurd h1 h2⟩
theorem led_few {n : Nat} {F : List Int} (h1 : F.Nodup) (h2 : ∀ k ∈ F, 0 ≤ k ∧ k < n) : F.length ≤ n := by
  have := nodup_le h1 fun k hk => mem_lamps.2 (h2 k hk)
  rwa [lamps_len] at this
theorem LedI.pop {n : Nat} {E : Int → Int → Bool} {S F R : List Int} {h : Int} (I : LedI n E S F (R ++ [h])) : LedJ n E S F R h [] :=
  ⟨I.nd, I.mem, I.sub, I.fr, fun k hk => I.rs k (List.mem_append_left _ hk), fun x h1 h2 h3 => I.cl x h1 (by simp [h2, h3]), I.rs h (by simp), fun p hp => by cases hp⟩
theorem LedJ.skip {n : Nat} {E : Int → Int → Bool} {S F R : List Int} {h : Int} {B : List (Addr × Int × Int)} (I : LedJ n E S F R h B) {p : Addr × Int × Int} (q : p.2.1 = h → p.2.2 ∈ F) : LedJ n E S F R h (B ++ [p]) :=
  ⟨I.nd, I.mem, I.sub, I.fr, I.rs, I.cl, I.hF, fun r hr => by
    rcases List.mem_append.1 hr with hr | hr
    · exact I.hc r hr
    · have : r = p := by simpa using hr
      subst this
      exact q⟩
theorem LedJ.put {n : Nat} {E : Int → Int → Bool} {S F R : List Int} {h : Int} {B : List (Addr × Int × Int)} (I : LedJ n E S F R h B) {p : Addr × Int × Int} (e : p.2.1 = h) (he : E p.2.1 p.2.2 = true) (hm : 0 ≤ p.2.2 ∧ p.2.2 < n) (q : p.2.2 ∉ F) :
    LedJ n E S (F ++ [p.2.2]) (R ++ [p.2.2]) h (B ++ [p]) := by
  refine ⟨?_, ?_, fun k hk => List.mem_append_left _ (I.sub k hk), ?_, ?_, ?_, List.mem_append_left _ I.hF, ?_⟩
  · exact nd_snoc I.nd q
  · intro k hk
    rcases List.mem_append.1 hk with hk | hk
    · exact I.mem k hk
    · have : k = p.2.2 := by simpa using hk
      rw [this]; exact hm
  · intro k hk
    rcases List.mem_append.1 hk with hk | hk
    · exact I.fr k hk
    · have : k = p.2.2 := by simpa using hk
      rw [this]
      obtain ⟨j, hj, pj⟩ := I.fr h I.hF
      exact ⟨j, hj, pj.tail (by rw [← e]; exact he)⟩
  · intro k hk
    rcases List.mem_append.1 hk with hk | hk
    · exact List.mem_append_left _ (I.rs k hk)
    · exact List.mem_append_right _ hk
  · intro x hx hn hh y hy
    rcases List.mem_append.1 hx with hx | hx
    · exact List.mem_append_left _ (I.cl x hx (fun z => hn (List.mem_append_left _ z)) hh y hy)
    · exact absurd (List.mem_append_right _ hx) hn
  · intro r hr z
    rcases List.mem_append.1 hr with hr | hr
    · exact List.mem_append_left _ (I.hc r hr z)
    · have : r = p := by simpa using hr
      subst this
      exact List.mem_append_right _ (by simp)
theorem LedJ.done {n : Nat} {S F R : List Int} {h : Int} {A : List (Addr × Int × Int)} (I : LedJ n (arr A) S F R h A) : LedI n (arr A) S F R :=
  ⟨I.nd, I.mem, I.sub, I.fr, I.rs, fun x h1 h2 y hy => by
    by_cases e : x = h
    · subst e
      obtain ⟨p, hp, e⟩ := List.mem_map.1 (arr_mem.1 hy)
      have := I.hc p hp (by rw [e])
      rw [e] at this
      exact this
    · exact I.cl x h1 h2 e y hy⟩
theorem path_in {E : Int → Int → Bool} {F : List Int} (cl : ∀ x ∈ F, ∀ y, E x y = true → y ∈ F) {j k : Int} (p : Path E j k) (hj : j ∈ F) : k ∈ F := by
  induction p with
  | refl => exact hj
  | tail _ e ih => exact cl _ ih _ e
theorem LedI.all {n : Nat} {E : Int → Int → Bool} {S F : List Int} (I : LedI n E S F []) (k : Int) : k ∈ F ↔ Front E S k := by
  exact ⟨I.fr k, fun ⟨j, hj, p⟩ => path_in (fun x hx y hy => I.cl x hx (by simp) y hy) p (I.sub j hj)⟩
section
variable {P : Program} {w : World} {K : PySem.W.Frag} {mg : Str → Option Value} {base : Heap}
def sp_led_from : Sp := fun vs H Q _ => ∃ (a b : Addr) (n : Nat) (A : List (Addr × Int × Int)) (S : List Int), vs = [.ref a, .ref b] ∧ WebAt H a n A ∧ TI H b S ∧ St n S ∧
  ∀ H' p L, Same H H' → LI H' p L → (∀ k, k ∈ L ↔ Front (arr A) S k) → Q (.ref p) H'
theorem ok_led_from (T : Bi mg) (D : Has K mg "led_from" s_led_from ["web", "some"]) : Cal P w K mg base 1 "led_from" ["web", "some"] sp_led_from := by
  refine Cal.of D sc_led_from (fun vs H Q E h => ?_) (fun f cdv A0 outer s H vs Q E hr h => ?_)
  · obtain ⟨a, b, n, A, S, rfl, _⟩ := h
    rfl
  · obtain ⟨a, b, n, A, S, rfl, W, hb, hS, q⟩ := h
    obtain ⟨t, ha, ht⟩ := W.at_
    have hn6 := W.n6
    refine ⟨_, pss_cons (ps_par (i := 2) (j := 3) rfl sc_led_from.nd rfl rfl (by decide) rfl rfl (pa_cons (pe_callTy call_list_of (by rfl) T.list boot_list (pa_cons (pv 1) pa_nil)) (pa_cons (pe_callTy call_list_of (by rfl) T.list boot_list (pa_cons (pv 1) pa_nil)) pa_nil)) (by rfl))
      (pss_cons (ps_while PassesOwn.never (pt_cmpR (op_neD hr.units) (pv 3) (pe_lst pa_nil) (nomark _)) (pss_cons (ps_set (i := 4) sc_led_from.nd rfl (.inl rfl) (pe_bm0 PySem.F.plainAttrs_list PySem.F.slot_list_pop PySem.F.type_list_pop mt_pop (pv 3)))
      (pss_one (ps_for PassesOwn.never rfl (pi_tup (pe_ix ix_tup (pv 0) pe_int (fun _ _ => rfl))) (pg_tup rfl (pgs_cons (pg_name (i := 5) sc_led_from.nd rfl (.inl rfl)) (pgs_cons (pg_name (i := 6) sc_led_from.nd rfl (.inl rfl)) pgs_nil)))
      (pss_one (ps_if (PW.pt (pw_and (pt_cmpR op_eq (pv 5) (pv 4) (nomark _)) (pw_and1 (pt_cmpR op_notIn_seq (pv 6) (pv 2) (by rfl))))) (pss_cons (ps_expr (pe_bm PySem.F.plainAttrs_list PySem.F.slot_list_append PySem.F.type_list_append mt_append (pv 2) (pa_cons (pv 6) pa_nil)))
      (pss_one (ps_expr (pe_bm PySem.F.plainAttrs_list PySem.F.slot_list_append PySem.F.type_list_append mt_append (pv 3) (pa_cons (pv 6) pa_nil))))) pss_nil))))))
      (pss_one (ps_ret (pe_callB cr_sorted (by rfl) T.sorted boot_sorted (pa_cons (pv 2) pa_nil))))), ?_⟩
    -- found, rows = list(some), list(some)
    refine ⟨.ref b, rfl, b, _, rfl, .inr (SqT.of hb), fun lf nf => ?_⟩
    have s1 : Same H (upd H lf (.lst (S.map V.int))) := same_new nf
    refine ⟨.ref b, rfl, b, _, rfl, .inr (SqT.of (s1 _ _ hb)), fun lr nr => ⟨_, _, rfl, ?_⟩⟩
    have nfr : lf ≠ lr := fun e => by rw [← e, upd_same] at nr; cases nr
    have nrH : H lr = none := Same.free s1 nr
    -- while rows != []
    refine ⟨fun m σ H2 => ∃ (F R : List Int) (y4 y5 y6 : Option V), σ = [some (.ref a), some (.ref b), some (.ref lf), some (.ref lr), y4, y5, y6] ∧ Same H H2 ∧ LI H2 lf F ∧ LI H2 lr R ∧ LedI n (arr A) S F R ∧ m = 2 * (n - F.length) + R.length ∧ m ≤ 100,
      ⟨_, S, S, none, none, none, rfl, s1.trans (same_new nr), by show upd _ _ _ lf = _; rw [upd_ne nfr, upd_same], upd_same, led_start hS, rfl, by have := led_few (asc_nodup hS.asc) hS.mem; omega⟩, fun m σ H2 ⟨F, R, y4, y5, y6, e, s2, hF, hR, I, hm, hm1⟩ => ?_⟩
    subst e hm
    refine ⟨.ref lr, rfl, Nat.zero_le _, fun M nM => ?_⟩
    have s3 : Same H2 (upd H2 M (.lst [])) := same_new nM
    refine ⟨.list (R.map .int), .list [], dp_li (SqL.of (s3 _ _ hR)), .lst (SqL.of upd_same) .nil, shaped_li R, rfl, _, rfl, ?_⟩
    rw [eqv_nil]
    have lF := led_few I.nd I.mem
    generalize hH3 : upd H2 M (.lst []) = H3 at s3
    have s23 := s2.trans s3
    have hF3 := s3 _ _ hF
    have hR3 := s3 _ _ hR
    cases hRR : R with
    | nil =>
      subst hRR
      refine iteF ?_
      refine ⟨.ref lf, rfl, lf, F, rfl, SqL.of hF3, by omega, fun L p pm _ nL => ?_⟩
      exact q _ p L (s23.trans (same_new nL)) upd_same fun k => by rw [pm.mem_iff]; exact I.all k
    | cons x0 r0 =>
      rw [← hRR]
      have e0 : (R.map PyData.int).isEmpty = false := by rw [hRR]; rfl
      rw [e0]
      refine iteT ?_
      obtain ⟨R1, h, eR⟩ : ∃ R1 h, R = R1 ++ [h] := ⟨R.dropLast, R.getLast (by rw [hRR]; simp), (List.dropLast_concat_getLast _).symm⟩
      have lR : R.length = R1.length + 1 := by rw [eR]; simp
      refine ⟨fun σ' H' => ∃ m', m' < 2 * (n - F.length) + R.length ∧ ∃ (F R : List Int) (y4 y5 y6 : Option V), σ' = [some (.ref a), some (.ref b), some (.ref lf), some (.ref lr), y4, y5, y6] ∧ Same H H' ∧ LI H' lf F ∧ LI H' lr R ∧ LedI n (arr A) S F R ∧ m' = 2 * (n - F.length) + R.length ∧ m' ≤ 100, fun σ' H' hN => hN, ?_⟩
      -- here = rows.pop()
      refine ⟨.ref lr, rfl, .inl ⟨rfl, _, SqL.of hR3⟩, lr, _, .int h, rfl, rfl, hR3, ?_, ?_⟩
      · rw [eR, List.length_map, List.getElem?_map]
        simp
      have eD : (R.map V.int).dropLast = R1.map V.int := by rw [eR]; simp
      rw [eD]
      have s4 : ∀ bb o, H bb = some o → (upd H3 lr (.lst (R1.map V.int))) bb = some o := fun bb o e => by
        rw [upd_ne (ne_of_none e nrH)]
        exact s23 _ _ e
      -- for one, other in web[1]
      refine ⟨.ref a, rfl, a, _, 1, .ref t, rfl, rfl, SqT.of (s4 _ _ ha), atI_nat (j := 1) rfl, t, rfl, ⟨_, SqT.of (s4 _ _ ht)⟩, ?_⟩
      rw [eR] at I
      refine for_it walk_tup (fun i σ H5 => ∃ (F2 R2 : List Int) (y5 y6 : Option V), σ = [some (.ref a), some (.ref b), some (.ref lf), some (.ref lr), some (.int h), y5, y6] ∧ Same H H5 ∧ LI H5 lf F2 ∧ LI H5 lr R2 ∧ LedJ n (arr A) S F2 R2 h (A.take i) ∧ 2 * (n - F2.length) + R2.length ≤ 2 * (n - F.length) + R1.length)
        ⟨F, R1, y5, y6, rfl, s4, by show upd _ _ _ lf = _; rw [upd_ne nfr]; exact hF3, upd_same, I.pop, Nat.le_refl _⟩ (fun i σ H5 _ ⟨_, _, _, _, _, s5, _⟩ => SqT.of (s5 _ _ ht)) (fun i x σ H5 H6 hi ⟨F2, R2, z5, z6, e, s5, hF5, hR5, J, hm5⟩ y => ?_) (fun σ H5 ⟨F2, R2, z5, z6, e, s5, hF5, hR5, J, hm5⟩ => ?_)
      · subst e
        obtain ⟨rfl, pa, hpa, rfl⟩ := yat_of y
        have hmem := List.mem_of_getElem? hpa
        have ea : A.take (i + 1) = A.take i ++ [pa] := by rw [List.take_add_one, hpa]; rfl
        have hp5 := s5 _ _ (W.each _ hmem)
        have lF2 := led_few J.nd J.mem
        obtain ⟨b1, b2, b3⟩ := W.lamp hmem
        refine ⟨pa.1, _, rfl, SqT.of hp5, rfl, _, _, rfl, _, _, rfl, rfl, ?_⟩
        refine ⟨.int pa.2.1, rfl, .int h, rfl, rfl, _, rfl, ite2 (fun h1 => ?_) (fun h1 => ?_)⟩
        · have h1 : pa.2.1 = h := V.int.inj (of_decide_eq_true h1)
          refine ⟨.int pa.2.2, rfl, .ref lf, rfl, lf, _, rfl, .inl (SqL.of hF5), rfl, flat_ints _, _, rfl, ?_⟩
          rw [inV_ints]
          by_cases h2 : pa.2.2 ∈ F2
          · rw [decide_eq_true h2]
            refine iteF ?_
            exact ⟨F2, R2, _, _, rfl, s5, hF5, hR5, by rw [ea]; exact J.skip fun _ => h2, hm5⟩
          · rw [decide_eq_false h2]
            refine iteT ?_
            have lR2 : R2.length ≤ 100 := by omega
            refine ⟨.ref lf, rfl, .inl ⟨rfl, _, SqL.of hF5⟩, .int pa.2.2, rfl, lf, _, _, rfl, rfl, hF5, small' (by rw [List.length_map]; omega), ?_⟩
            have hR6 : (upd H6 lf (.lst (F2.map V.int ++ [.int pa.2.2]))) lr = some (.lst (R2.map V.int)) := by rw [upd_ne nfr.symm]; exact hR5
            refine ⟨.ref lr, rfl, .inl ⟨rfl, _, SqL.of hR6⟩, .int pa.2.2, rfl, lr, _, _, rfl, rfl, hR6, small' (by rw [List.length_map]; omega), ?_⟩
            refine ⟨F2 ++ [pa.2.2], R2 ++ [pa.2.2], _, _, rfl, fun bb o e => ?_, ?_, ?_, by rw [ea]; exact J.put h1 (arr_mem.2 (List.mem_map.2 ⟨pa, hmem, rfl⟩)) b2 h2, ?_⟩
            · rw [upd_ne (ne_of_none e nrH), upd_ne (ne_of_none e nf)]
              exact s5 _ _ e
            · show upd _ _ _ lf = _
              rw [upd_ne nfr, upd_same, List.map_append]
              rfl
            · show upd _ _ _ lr = _
              rw [upd_same, List.map_append]
              rfl
            · have := led_few (J.put h1 (arr_mem.2 (List.mem_map.2 ⟨pa, hmem, rfl⟩)) b2 h2).nd (J.put h1 (arr_mem.2 (List.mem_map.2 ⟨pa, hmem, rfl⟩)) b2 h2).mem
              simp only [List.length_append, List.length_singleton] at this ⊢
              omega
        · have h1 : ¬ pa.2.1 = h := fun z => h1 (decide_eq_true (congrArg V.int z))
          refine iteF ?_
          exact ⟨F2, R2, _, _, rfl, s5, hF5, hR5, by rw [ea]; exact J.skip fun z => absurd z h1, hm5⟩
      · subst e
        rw [List.length_map, List.take_length] at J
        exact ⟨_, by omega, F2, R2, _, _, _, rfl, s5, hF5, hR5, J.done, rfl, by omega⟩
theorem arrows_at {H : Hp} : ∀ {ys : List V}, (∀ y ∈ ys, ∃ (z : Addr) (i j : Int), y = .ref z ∧ H z = some (.tup [.int i, .int j])) → ∃ B : List (Addr × Int × Int), B.map (fun p => V.ref p.1) = ys ∧ ∀ p ∈ B, H p.1 = some (.tup [.int p.2.1, .int p.2.2])
  | [], _ => ⟨[], rfl, fun p hp => by cases hp⟩
  | y :: r, h => by
    obtain ⟨B, h1, h2⟩ := arrows_at fun y hy => h y (List.mem_cons_of_mem _ hy)
    obtain ⟨z, i, j, rfl, hz⟩ := h y List.mem_cons_self
    refine ⟨(z, i, j) :: B, by rw [List.map_cons, h1], fun p hp => ?_⟩
    rcases List.mem_cons.1 hp with rfl | hp
    · exact hz
    · exact h2 p hp
theorem filter_all {α : Type} : ∀ l : List α, l.filter (fun _ => true) = l
  | [] => rfl
  | a :: r => by simp
def sp_turned_in : Sp := fun vs H Q _ => ∃ (a : Addr) (n : Nat) (A : List (Addr × Int × Int)), vs = [.ref a] ∧ WebAt H a n A ∧ ∀ H' p B, Same H H' → WebAt H' p n B → arr B = rev (arr A) → Q (.ref p) H'
theorem ok_turned_in (T : Bi mg) (D : Has K mg "turned_in" s_turned_in ["web"]) : Cal P w K mg base 1 "turned_in" ["web"] sp_turned_in := by
  refine Cal.of D sc_turned_in (fun vs H Q E h => ?_) (fun f cdv A0 outer s H vs Q E hr h => ?_)
  · obtain ⟨a, n, A, rfl, _⟩ := h
    rfl
  · obtain ⟨a, n, A, rfl, W, q⟩ := h
    obtain ⟨t, ha, ht⟩ := W.at_
    refine ⟨_, pss_one (ps_ret (pe_tup (pa_cons (pe_ix ix_tup (pv 0) pe_int (fun _ _ => rfl)) (pa_cons (pe_callTy call_tuple_of (by rfl) T.tuple boot_tuple (pa_cons (pe_callB cr_sortedP (by rfl) T.sorted boot_sorted (pa_cons 
        (pe_lc (own := [("one", 1), ("other", 2)]) (g := gTup K 2 (gCons (gName 1) (gCons (gName 2) (gNil)))) rfl sc_turned_in.nd (pi_tup (pe_ix ix_tup (pv 0) pe_int (fun _ _ => rfl))) (blkOk_by (own := [("one", 1), ("other", 2)]) (N := ["web", "one", "other"]) (sc := defScope s_turned_in) (by decide +kernel))
          (fun _ _ _ _ _ => (pg_tup rfl (pgs_cons (pg_name (i := 1) sc_turned_in.nd rfl (.inl rfl)) (pgs_cons (pg_name (i := 2) sc_turned_in.nd rfl (.inl rfl)) pgs_nil)))) (fun _ _ _ _ _ => pts_nil) (fun _ _ _ _ _ => (pe_tup (pa_cons (pv 2) (pa_cons (pv 1) pa_nil))))) pa_nil)) pa_nil)) pa_nil)))), ?_⟩
    refine ⟨.ref a, rfl, a, _, 0, .int n, rfl, rfl, SqT.of ha, atI_nat (j := 0) rfl, ?_⟩
    refine ⟨.ref a, rfl, a, _, 1, .ref t, rfl, rfl, SqT.of ha, atI_nat (j := 1) rfl, t, rfl, ⟨_, SqT.of ht⟩, fun L nL => ?_⟩
    refine lc_fm walk_tup A (fun p => V.ref p.1) (by rw [List.length_map]) (fun i H x H' y => yat_of y) (fun _ => true) (fun pa y H2 => ∃ z, y = .ref z ∧ H2 z = some (.tup [.int pa.2.2, .int pa.2.1])) nL (by have := W.few; omega) (fun H2 s2 => SqT.of (s2 _ _ ht))
      (fun pa y H2 H3 ⟨acc, hL⟩ s ⟨z, e, hz⟩ => ⟨z, e, s _ _ hz (ne_of hz hL (fun z => nomatch z))⟩) (fun pa H2 N hpa s2 hL hN1 _ => ?_) (fun H2 ys s2 hL pr => ?_)
    · have hp := s2 _ _ (W.each pa hpa)
      obtain ⟨acc, hL⟩ := hL
      refine ⟨pa.1, _, rfl, SqT.of hp, rfl, _, _, rfl, _, _, rfl, rfl, rfl, ?_⟩
      refine iteT (B := N H2) ?_
      refine ⟨.int pa.2.2, rfl, .int pa.2.1, rfl, by show 2 ≤ sizeLine; decide, fun z nz => ?_⟩
      exact hN1 rfl _ _ (same_new nz) ⟨z, rfl, upd_same⟩
    · rw [filter_all] at pr
      have yin : ∀ y ∈ ys, ∃ pa ∈ A, ∃ z, y = .ref z ∧ H2 z = some (.tup [.int pa.2.2, .int pa.2.1]) := by
        have key : ∀ {l : List (Addr × Int × Int)} {m : List V}, Paired (fun pa y => ∃ z, y = V.ref z ∧ H2 z = some (.tup [.int pa.2.2, .int pa.2.1])) l m → ∀ y ∈ m, ∃ pa ∈ l, ∃ z, y = .ref z ∧ H2 z = some (.tup [.int pa.2.2, .int pa.2.1]) := by
          intro l m pr
          induction pr with
          | nil => intro y hy; cases hy
          | cons r t ih =>
            intro y hy
            rcases List.mem_cons.1 hy with rfl | hy
            · exact ⟨_, List.mem_cons_self, r⟩
            · obtain ⟨pa, h1, h2⟩ := ih y hy
              exact ⟨pa, List.mem_cons_of_mem _ h1, h2⟩
        exact key pr
      refine ⟨L, ys, rfl, SqL.of hL, fun y hy => ?_, fun ys2 p2 pm n2 => ?_⟩
      · obtain ⟨pa, _, z, e, hz⟩ := yin y hy
        exact ⟨z, _, _, e, hz⟩
      have s3 : Same H2 (upd H2 p2 (.lst ys2)) := same_new n2
      refine ⟨p2, ys2, rfl, .inl ⟨SqL.of upd_same, fun p3 n3 => ?_⟩⟩
      have s4 := s3.trans (same_new (o := .tup ys2) n3)
      refine ⟨by show 2 ≤ sizeLine; decide, fun p4 n4 => ?_⟩
      have s5 := s4.trans (same_new (o := .tup [.int n, .ref p3]) n4)
      obtain ⟨B, eB, hB⟩ := arrows_at (H := H2) (ys := ys2) fun y hy => by
        obtain ⟨pa, _, z, e, hz⟩ := yin y (pm.mem_iff.1 hy)
        exact ⟨z, _, _, e, hz⟩
      have eA : arr B = rev (arr A) := by
        funext x y
        refine Bool.eq_iff_iff.2 ?_
        show arr B x y = true ↔ arr A y x = true
        rw [arr_mem, arr_mem]
        constructor
        · intro h
          obtain ⟨b, hb, e⟩ := List.mem_map.1 h
          have hy : V.ref b.1 ∈ ys2 := by rw [← eB]; exact List.mem_map.2 ⟨b, hb, rfl⟩
          obtain ⟨pa, hpa, z, e2, hz⟩ := yin _ (pm.mem_iff.1 hy)
          cases e2
          rw [hB b hb] at hz
          have hz := Option.some.inj hz
          simp only [HO.tup.injEq, List.cons.injEq, V.int.injEq, and_true] at hz
          refine List.mem_map.2 ⟨pa, hpa, ?_⟩
          refine Prod.ext ?_ ?_
          · show pa.2.1 = y
            rw [← hz.2, e]
          · show pa.2.2 = x
            rw [← hz.1, e]
        · intro h
          obtain ⟨pa, hpa, e⟩ := List.mem_map.1 h
          obtain ⟨i, hi⟩ := List.getElem?_of_mem hpa
          obtain ⟨v, hv, z, e2, hz⟩ := Pl.paired_get pr i pa hi
          have hv2 : v ∈ ys2 := pm.mem_iff.2 (List.mem_of_getElem? hv)
          rw [← eB] at hv2
          obtain ⟨b, hb, e3⟩ := List.mem_map.1 hv2
          rw [e2] at e3
          cases e3
          rw [hB b hb] at hz
          have hz := Option.some.inj hz
          simp only [HO.tup.injEq, List.cons.injEq, V.int.injEq, and_true] at hz
          refine List.mem_map.2 ⟨b, hb, ?_⟩
          refine Prod.ext ?_ ?_
          · show b.2.1 = x
            rw [hz.1, e]
          · show b.2.2 = y
            rw [hz.2, e]
      have lB : B.length ≤ 36 := by
        have h1 := congrArg List.length eB
        have h2 := pm.length_eq
        have h3 := Paired.length pr
        rw [List.length_map] at h1
        have := W.few
        omega
      refine q _ p4 B (s2.trans s5) ⟨⟨p3, upd_same, ?_⟩, fun b hb => s5 _ _ (hB b hb), by rw [eA]; exact W.ok.rev, lB, W.n1, W.n6⟩ eA
      rw [upd_ne (ne_of_none upd_same n4), upd_same, eB]
def sp_comes_in : Sp := fun vs H Q _ => ∃ (a b c : Addr) (n : Nat) (A : List (Addr × Int × Int)) (S U : List Int), vs = [.ref a, .ref b, .ref c] ∧ WebAt H a n A ∧ TI H b S ∧ St n S ∧ TI H c U ∧ St n U ∧
  ∀ H' k, Same H H' → (k = true ↔ Comes (arr A) S U) → Q (.bl k) H'
theorem ok_comes_in (T : Bi mg) (D : Has K mg "comes_in" s_comes_in ["web", "one", "other"]) (C_led_from : Cal P w K mg base 1 "led_from" ["web", "some"] sp_led_from) (C_turned_in : Cal P w K mg base 1 "turned_in" ["web"] sp_turned_in) : Cal P w K mg base 2 "comes_in" ["web", "one", "other"] sp_comes_in := by
  refine Cal.of D sc_comes_in (fun vs H Q E h => ?_) (fun f cdv A0 outer s H vs Q E hr h => ?_)
  · obtain ⟨a, b, c, n, A, S, U, rfl, _⟩ := h
    rfl
  · obtain ⟨a, b, c, n, A, S, U, rfl, W, hb, hS, hc, hU, q⟩ := h
    refine ⟨_, pss_cons (ps_asg (pe_tup (pa_cons (pe_cal C_led_from (hr.mono (by decide)) (by rfl) (pa_cons (pv 0) (pa_cons (pv 1) pa_nil))) (pa_cons (pe_cal C_led_from (hr.mono (by decide)) (by rfl) (pa_cons (pe_cal C_turned_in (hr.mono (by decide)) (by rfl) (pa_cons (pv 0) pa_nil)) (pa_cons (pv 2) pa_nil))) pa_nil))) (pg_tup rfl (pgs_cons (pg_name (i := 3) sc_comes_in.nd rfl (.inr rfl)) (pgs_cons (pg_name (i := 4) sc_comes_in.nd rfl (.inr rfl)) pgs_nil))))
      (pss_one (ps_ret (pe_and (pe_cmpR (op_eqD hr.units) 
        (pe_lc (own := [("k", 5)]) (g := gName 5) rfl sc_comes_in.nd (pi_tup (pv 2)) (blkOk_by (own := [("k", 5)]) (N := ["web", "one", "other", "front", "back", "k"]) (sc := defScope s_comes_in) (by decide +kernel))
          (fun _ _ _ _ _ => (pg_name (i := 5) sc_comes_in.nd rfl (.inl rfl))) (fun _ _ _ _ _ => (pts_one (pt_cmpR (op_notIn_seqK K) (pv 5) (pv 3) (by rfl)))) (fun _ _ _ _ _ => (pv 5))) (pe_lst pa_nil) (nomark _)) (pe_one (pe_cmpR (op_eqD hr.units) 
        (pe_lc (own := [("k", 5)]) (g := gName 5) rfl sc_comes_in.nd (pi_tup (pv 1)) (blkOk_by (own := [("k", 5)]) (N := ["web", "one", "other", "front", "back", "k"]) (sc := defScope s_comes_in) (by decide +kernel))
          (fun _ _ _ _ _ => (pg_name (i := 5) sc_comes_in.nd rfl (.inl rfl))) (fun _ _ _ _ _ => (pts_one (pt_cmpR (op_notIn_seqK K) (pv 5) (pv 4) (by rfl)))) (fun _ _ _ _ _ => (pv 5))) (pe_lst pa_nil) (nomark _)))))), ?_⟩
    refine ⟨.ref a, rfl, .ref b, rfl, a, b, n, A, S, rfl, W, hb, hS, fun H1 p1 L1 s1 h1 f1 => ?_⟩
    refine ⟨.ref a, rfl, a, n, A, rfl, W.same s1, fun H2 p2 B s2 W2 eB => ?_⟩
    have s12 := s1.trans s2
    refine ⟨.ref c, rfl, p2, c, n, B, U, rfl, W2, s12 _ _ hc, hU, fun H3 p3 L3 s3 h3 f3 => ?_⟩
    have f3 : ∀ k, k ∈ L3 ↔ Back (arr A) U k := fun k => by
      rw [f3, eB]
      constructor
      · rintro ⟨j, hj, pj⟩
        exact ⟨j, hj, path_rev.1 pj⟩
      · rintro ⟨j, hj, pj⟩
        exact ⟨j, hj, path_rev.2 pj⟩
    have s13 := s12.trans s3
    refine ⟨by show 2 ≤ sizeLine; decide, fun p4 n4 => ⟨p4, _, rfl, SqT.of upd_same, rfl, _, _, rfl, _, _, rfl, rfl, ?_⟩⟩
    have s4 := same_new (o := .tup [.ref p1, .ref p3]) n4
    have s14 := s13.trans s4
    have g1 := s4 _ _ (s3 _ _ (s2 _ _ h1))
    have g3 := s4 _ _ h3
    generalize upd H3 p4 (.tup [.ref p1, .ref p3]) = H4 at s4 s14 g1 g3
    -- the first comprehension
    refine ⟨.ref c, rfl, c, rfl, ⟨_, SqT.of (s14 _ _ hc)⟩, fun L nL => ?_⟩
    refine lc_fm walk_tup U V.int (by rw [List.length_map]) (fun i H x H' y => yat_of y) (fun k => !decide (k ∈ L1)) (fun k y _ => y = .int k) nL (by have := led_few (asc_nodup hU.asc) hU.mem; have := W.n6; omega) (fun H2 s2 => SqT.of (s2 _ _ (s14 _ _ hc)))
      (fun _ _ _ _ _ _ e => e) (fun k H5 N hk s5 hL hN1 hN2 => ?_) (fun H5 ys s5 hL pr => ?_)
    · refine ⟨rfl, ?_⟩
      refine ⟨.int k, rfl, .ref p1, rfl, p1, _, rfl, .inl (SqL.of (s5 _ _ g1)), rfl, flat_ints _, _, rfl, ?_⟩
      rw [inV_ints]
      by_cases e : k ∈ L1
      · rw [decide_eq_true e]
        exact iteF (hN2 (by simp [e]) H5 (Same.refl _))
      · rw [decide_eq_false e]
        exact iteT ⟨.int k, rfl, hN1 (by simp [e]) H5 _ (Same.refl _) rfl⟩
    have ey := paired_fn pr
    subst ey
    refine ⟨Nat.zero_le _, fun M nM => ?_⟩
    have s6 := same_new (o := .lst []) nM
    have s16 := (s14.trans s5).trans s6
    refine ⟨.list ((U.filter fun k => !decide (k ∈ L1)).map .int), .list [], dp_li (SqL.of (s6 _ _ hL)), .lst (SqL.of upd_same) .nil, shaped_li _, rfl, _, rfl, ?_⟩
    rw [eqv_nil]
    have g3' := s6 _ _ (s5 _ _ g3)
    generalize upd H5 M (.lst []) = H6 at s6 s16 g3'
    by_cases e1 : ∀ k ∈ U, k ∈ L1
    · have z1 : (U.filter fun k => !decide (k ∈ L1)) = [] := List.filter_eq_nil_iff.2 fun k hk => by simp [e1 k hk]
      rw [z1]
      refine iteT ?_
      refine ⟨.ref b, rfl, b, rfl, ⟨_, SqT.of (s16 _ _ hb)⟩, fun L2 nL2 => ?_⟩
      refine lc_fm walk_tup S V.int (by rw [List.length_map]) (fun i H x H' y => yat_of y) (fun k => !decide (k ∈ L3)) (fun k y _ => y = .int k) nL2 (by have := led_few (asc_nodup hS.asc) hS.mem; have := W.n6; omega) (fun H2 s2 => SqT.of (s2 _ _ (s16 _ _ hb)))
        (fun _ _ _ _ _ _ e => e) (fun k H7 N hk s7 hL7 hN1 hN2 => ?_) (fun H7 ys s7 hL7 pr7 => ?_)
      · refine ⟨rfl, ?_⟩
        refine ⟨.int k, rfl, .ref p3, rfl, p3, _, rfl, .inl (SqL.of (s7 _ _ g3')), rfl, flat_ints _, _, rfl, ?_⟩
        rw [inV_ints]
        by_cases e : k ∈ L3
        · rw [decide_eq_true e]
          exact iteF (hN2 (by simp [e]) H7 (Same.refl _))
        · rw [decide_eq_false e]
          exact iteT ⟨.int k, rfl, hN1 (by simp [e]) H7 _ (Same.refl _) rfl⟩
      have ey := paired_fn pr7
      subst ey
      refine ⟨Nat.zero_le _, fun M8 nM8 => ?_⟩
      have s8 := same_new (o := .lst []) nM8
      refine ⟨.list ((S.filter fun k => !decide (k ∈ L3)).map .int), .list [], dp_li (SqL.of (s8 _ _ hL7)), .lst (SqL.of upd_same) .nil, shaped_li _, rfl, ?_⟩
      rw [eqv_nil]
      refine q _ _ ((s16.trans s7).trans s8) ?_
      rw [List.isEmpty_map, List.isEmpty_iff, List.filter_eq_nil_iff]
      constructor
      · intro z
        exact ⟨fun k hk => (f1 k).1 (e1 k hk), fun k hk => (f3 k).1 (by simpa using z k hk)⟩
      · intro z k hk
        simpa using (f3 k).2 (z.2 k hk)
    · have z1 : (U.filter fun k => !decide (k ∈ L1)).isEmpty = false := by
        refine Bool.eq_false_iff.2 fun z => e1 fun k hk => ?_
        have := List.filter_eq_nil_iff.1 (List.isEmpty_iff.1 z) k hk
        simpa using this
      rw [List.isEmpty_map, z1]
      refine iteF ?_
      refine q _ _ s16 ⟨fun z => absurd z (by simp), fun z => absurd (fun k hk => (f1 k).2 (z.1 k hk)) e1⟩
end
end Pl


set_option Elab.async false
set_option linter.all false
set_option maxRecDepth 100000
set_option maxHeartbeats 4000000
namespace Pl
open PySem PySem.Spec PyProof.Rows L2 Pr
abbrev s_light_in : Stmt := topS 15
theorem sc_light_in : FnScope ["web", "burning", "one", "other"] ["web", "burning"] (defScope s_light_in) := ⟨rfl, rfl, rfl, by decide +kernel, rfl, by decide +kernel, by decide +kernel⟩
abbrev s_quench_in : Stmt := topS 16
theorem sc_quench_in : FnScope ["web", "burning", "one", "other"] ["web", "burning"] (defScope s_quench_in) := ⟨rfl, rfl, rfl, by decide +kernel, rfl, by decide +kernel, by decide +kernel⟩
abbrev s_changed : Stmt := topS 17
theorem sc_changed : FnScope ["burning", "lamp", "k"] ["burning", "lamp"] (defScope s_changed) := ⟨rfl, rfl, rfl, by decide +kernel, rfl, by decide +kernel, by decide +kernel⟩
abbrev s_doable : Stmt := topS 18
theorem sc_doable : FnScope ["web", "burning"] ["web", "burning"] (defScope s_doable) := ⟨rfl, rfl, rfl, by decide +kernel, rfl, by decide +kernel, by decide +kernel⟩
def lightL (n : Nat) (E : Int → Int → Bool) (S : List Int) : List Int := (lamps n).filter fun k => !decide (k ∈ S) && S.any fun j => E j k
def quenchL (n : Nat) (E : Int → Int → Bool) (S : List Int) : List Int := (lamps n).filter fun k => decide (k ∈ S) && S.any fun j => E k j
theorem asc_lightL (n : Nat) (E : Int → Int → Bool) (S : List Int) : Asc (lightL n E S) := (asc_lamps n).filter _
theorem asc_quenchL (n : Nat) (E : Int → Int → Bool) (S : List Int) : Asc (quenchL n E S) := (asc_lamps n).filter _
theorem mem_lightL {n : Nat} {E : Int → Int → Bool} (W : WebOk n E) {S : List Int} {k : Int} : k ∈ lightL n E S ↔ k ∉ S ∧ ∃ j ∈ S, E j k = true := by
  unfold lightL
  rw [List.mem_filter, mem_lamps, Bool.and_eq_true, List.any_eq_true]
  constructor
  · rintro ⟨_, h1, h2⟩
    exact ⟨by simpa using h1, h2⟩
  · rintro ⟨h1, j, hj, e⟩
    exact ⟨(W.mem _ _ e).2, by simpa using h1, j, hj, e⟩
theorem mem_quenchL {n : Nat} {E : Int → Int → Bool} (W : WebOk n E) {S : List Int} {k : Int} : k ∈ quenchL n E S ↔ k ∈ S ∧ ∃ j ∈ S, E k j = true := by
  unfold quenchL
  rw [List.mem_filter, mem_lamps, Bool.and_eq_true, List.any_eq_true]
  constructor
  · rintro ⟨_, h1, h2⟩
    exact ⟨by simpa using h1, h2⟩
  · rintro ⟨h1, j, hj, e⟩
    exact ⟨(W.mem _ _ e).1, by simpa using h1, j, hj, e⟩
theorem few_lamps {n : Nat} (h6 : n ≤ 6) (p : Int → Bool) : ((lamps n).filter p).length ≤ 6 := by
  have := List.length_filter_le p (lamps n)
  rw [lamps_len] at this
  omega
theorem St.few {n : Nat} {S : List Int} (h : St n S) : S.length ≤ n := led_few (asc_nodup h.asc) h.mem
/-- both sorts of deeds, sorted -/
theorem doable_of {n : Nat} {E : Int → Int → Bool} (W : WebOk n E) {S L : List Int} (pm : L.Perm (lightL n E S ++ quenchL n E S)) (le : L.Pairwise (· ≤ ·)) : L = doable n E S := by
  have nd : (lightL n E S ++ quenchL n E S).Nodup := by
    rw [List.nodup_append]
    refine ⟨asc_nodup (asc_lightL n E S), asc_nodup (asc_quenchL n E S), fun a ha b hb e => ?_⟩
    subst e
    exact ((mem_lightL W).1 ha).1 ((mem_quenchL W).1 hb).1
  refine asc_ext (asc_of_le le (pm.nodup_iff.2 nd)) (asc_doable n E S) fun x => ?_
  rw [pm.mem_iff, List.mem_append, mem_lightL W, mem_quenchL W, mem_doable W]
  unfold can
  by_cases h : x ∈ S
  · rw [if_pos h, List.any_eq_true]
    simp [h]
  · rw [if_neg h, List.any_eq_true]
    simp [h]
theorem chg_ins {S L : List Int} {k : Int} (hS : Asc S) (hk : k ∉ S) (pm : L.Perm (S ++ [k])) (le : L.Pairwise (· ≤ ·)) : L = chg S k := by
  have nd : (S ++ [k]).Nodup := nd_snoc (asc_nodup hS) hk
  refine asc_ext (asc_of_le le (pm.nodup_iff.2 nd)) (asc_chg hS k) fun x => ?_
  rw [pm.mem_iff, List.mem_append, mem_chg]
  constructor
  · rintro (h | h)
    · exact .inl ⟨h, fun e => hk (e ▸ h)⟩
    · exact .inr ⟨hk, by simpa using h⟩
  · rintro (h | h)
    · exact .inl h.1
    · exact .inr (by simp [h.2])
section
variable {P : Program} {w : World} {K : PySem.W.Frag} {mg : Str → Option Value} {base : Heap}
def sp_light_in : Sp := fun vs H Q _ => ∃ (a b : Addr) (n : Nat) (A : List (Addr × Int × Int)) (S : List Int), vs = [.ref a, .ref b] ∧ WebAt H a n A ∧ TI H b S ∧ St n S ∧
  ∀ H' p, Same H H' → LI H' p (lightL n (arr A) S) → Q (.ref p) H'
theorem ok_light_in (T : Bi mg) (D : Has K mg "light_in" s_light_in ["web", "burning"]) : Cal P w K mg base 1 "light_in" ["web", "burning"] sp_light_in := by
  refine Cal.of D sc_light_in (fun vs H Q E h => ?_) (fun f cdv A0 outer s H vs Q E hr h => ?_)
  · obtain ⟨a, b, n, A, S, rfl, _⟩ := h
    rfl
  · obtain ⟨a, b, n, A, S, rfl, W, hb, hS, q⟩ := h
    obtain ⟨t, ha, ht⟩ := W.at_
    have hfew := W.few
    refine ⟨_, pss_one (ps_ret (pe_callB (cr_sortedSet rfl) (by rfl) T.sorted boot_sorted (pa_cons (pe_callTy (cr_setOfI rfl) (by rfl) T.set boot_set (pa_cons 
        (pe_lc (own := [("one", 2), ("other", 3)]) (g := gTup K 2 (gCons (gName 2) (gCons (gName 3) (gNil)))) rfl sc_light_in.nd (pi_tup (pe_ix ix_tup (pv 0) pe_int (fun _ _ => rfl))) (blkOk_by (own := [("one", 2), ("other", 3)]) (N := ["web", "burning", "one", "other"]) (sc := defScope s_light_in) (by decide +kernel))
          (fun _ _ _ _ _ => (pg_tup rfl (pgs_cons (pg_name (i := 2) sc_light_in.nd rfl (.inl rfl)) (pgs_cons (pg_name (i := 3) sc_light_in.nd rfl (.inl rfl)) pgs_nil)))) (fun _ _ _ _ _ => (pts_one (PW.pt (pw_and (pt_cmpR (op_in_seqK K) (pv 2) (pv 1) (by rfl)) (pw_and1 (pt_cmpR (op_notIn_seqK K) (pv 3) (pv 1) (by rfl))))))) (fun _ _ _ _ _ => (pv 3))) pa_nil)) pa_nil))), ?_⟩
    refine ⟨.ref a, rfl, a, _, 1, .ref t, rfl, rfl, SqT.of ha, atI_nat (j := 1) rfl, t, rfl, ⟨_, SqT.of ht⟩, fun L nL => ?_⟩
    refine lc_fm walk_tup A (fun p => V.ref p.1) (by rw [List.length_map]) (fun i H x H' y => yat_of y) (fun p => decide (p.2.1 ∈ S) && !decide (p.2.2 ∈ S)) (fun p y _ => y = .int p.2.2) nL (by omega) (fun H2 s2 => SqT.of (s2 _ _ ht))
      (fun _ _ _ _ _ _ e => e) (fun p H2 N hp s2 hL hN1 hN2 => ?_) (fun H2 ys s2 hL pr => ?_)
    · have hb2 := s2 _ _ hb
      refine ⟨p.1, _, rfl, SqT.of (s2 _ _ (W.each p hp)), rfl, _, _, rfl, _, _, rfl, rfl, rfl, ?_⟩
      refine ⟨.int p.2.1, rfl, .ref b, rfl, b, _, rfl, .inr (SqT.of hb2), rfl, flat_ints _, _, rfl, ?_⟩
      rw [inV_ints]
      by_cases e1 : p.2.1 ∈ S
      · rw [decide_eq_true e1]
        refine iteT (B := N H2) ?_
        refine ⟨.int p.2.2, rfl, .ref b, rfl, b, _, rfl, .inr (SqT.of hb2), rfl, flat_ints _, _, rfl, ?_⟩
        rw [inV_ints]
        by_cases e2 : p.2.2 ∈ S
        · rw [decide_eq_true e2]
          exact iteF (hN2 (by simp [e1, e2]) H2 (Same.refl _))
        · rw [decide_eq_false e2]
          exact iteT ⟨.int p.2.2, rfl, hN1 (by simp [e1, e2]) H2 _ (Same.refl _) rfl⟩
      · rw [decide_eq_false e1]
        exact iteF (hN2 (by simp [e1]) H2 (Same.refl _))
    · have ey : ys = ((A.filter fun p => decide (p.2.1 ∈ S) && !decide (p.2.2 ∈ S)).map (·.2.2)).map V.int := by
        rw [List.map_map]
        exact paired_fn pr
      subst ey
      have l1 : ((A.filter fun p => decide (p.2.1 ∈ S) && !decide (p.2.2 ∈ S)).map (·.2.2)).length ≤ 36 := by
        rw [List.length_map]
        exact Nat.le_trans (List.length_filter_le _ _) hfew
      refine ⟨L, _, rfl, SqL.of hL, by omega, fun p1 c hc n1 => ?_⟩
      refine ⟨p1, _, c, rfl, upd_same, by omega, fun ns p2 pw mem _ n2 => ?_⟩
      have e : ns = lightL n (arr A) S := by
        refine asc_ext pw (asc_lightL n _ S) fun x => ?_
        rw [mem, decide_eq_true_iff, mem_lightL W.ok, List.mem_map]
        constructor
        · rintro ⟨p, hp, rfl⟩
          obtain ⟨h1, h2⟩ := List.mem_filter.1 hp
          simp at h2
          exact ⟨h2.2, p.2.1, h2.1, arr_mem.2 (List.mem_map.2 ⟨p, h1, rfl⟩)⟩
        · rintro ⟨h1, j, hj, e⟩
          obtain ⟨p, hp, e⟩ := List.mem_map.1 (arr_mem.1 e)
          refine ⟨p, List.mem_filter.2 ⟨hp, ?_⟩, by rw [e]⟩
          simp [e, hj, h1]
      subst e
      exact q _ p2 (s2.trans ((same_new n1).trans (same_new n2))) upd_same
def sp_quench_in : Sp := fun vs H Q _ => ∃ (a b : Addr) (n : Nat) (A : List (Addr × Int × Int)) (S : List Int), vs = [.ref a, .ref b] ∧ WebAt H a n A ∧ TI H b S ∧ St n S ∧
  ∀ H' p, Same H H' → LI H' p (quenchL n (arr A) S) → Q (.ref p) H'
theorem ok_quench_in (T : Bi mg) (D : Has K mg "quench_in" s_quench_in ["web", "burning"]) : Cal P w K mg base 1 "quench_in" ["web", "burning"] sp_quench_in := by
  refine Cal.of D sc_quench_in (fun vs H Q E h => ?_) (fun f cdv A0 outer s H vs Q E hr h => ?_)
  · obtain ⟨a, b, n, A, S, rfl, _⟩ := h
    rfl
  · obtain ⟨a, b, n, A, S, rfl, W, hb, hS, q⟩ := h
    obtain ⟨t, ha, ht⟩ := W.at_
    have hfew := W.few
    refine ⟨_, pss_one (ps_ret (pe_callB (cr_sortedSet rfl) (by rfl) T.sorted boot_sorted (pa_cons (pe_callTy (cr_setOfI rfl) (by rfl) T.set boot_set (pa_cons 
        (pe_lc (own := [("one", 2), ("other", 3)]) (g := gTup K 2 (gCons (gName 2) (gCons (gName 3) (gNil)))) rfl sc_quench_in.nd (pi_tup (pe_ix ix_tup (pv 0) pe_int (fun _ _ => rfl))) (blkOk_by (own := [("one", 2), ("other", 3)]) (N := ["web", "burning", "one", "other"]) (sc := defScope s_quench_in) (by decide +kernel))
          (fun _ _ _ _ _ => (pg_tup rfl (pgs_cons (pg_name (i := 2) sc_quench_in.nd rfl (.inl rfl)) (pgs_cons (pg_name (i := 3) sc_quench_in.nd rfl (.inl rfl)) pgs_nil)))) (fun _ _ _ _ _ => (pts_one (PW.pt (pw_and (pt_cmpR (op_in_seqK K) (pv 2) (pv 1) (by rfl)) (pw_and1 (pt_cmpR (op_in_seqK K) (pv 3) (pv 1) (by rfl))))))) (fun _ _ _ _ _ => (pv 2))) pa_nil)) pa_nil))), ?_⟩
    refine ⟨.ref a, rfl, a, _, 1, .ref t, rfl, rfl, SqT.of ha, atI_nat (j := 1) rfl, t, rfl, ⟨_, SqT.of ht⟩, fun L nL => ?_⟩
    refine lc_fm walk_tup A (fun p => V.ref p.1) (by rw [List.length_map]) (fun i H x H' y => yat_of y) (fun p => decide (p.2.1 ∈ S) && decide (p.2.2 ∈ S)) (fun p y _ => y = .int p.2.1) nL (by omega) (fun H2 s2 => SqT.of (s2 _ _ ht))
      (fun _ _ _ _ _ _ e => e) (fun p H2 N hp s2 hL hN1 hN2 => ?_) (fun H2 ys s2 hL pr => ?_)
    · have hb2 := s2 _ _ hb
      refine ⟨p.1, _, rfl, SqT.of (s2 _ _ (W.each p hp)), rfl, _, _, rfl, _, _, rfl, rfl, rfl, ?_⟩
      refine ⟨.int p.2.1, rfl, .ref b, rfl, b, _, rfl, .inr (SqT.of hb2), rfl, flat_ints _, _, rfl, ?_⟩
      rw [inV_ints]
      by_cases e1 : p.2.1 ∈ S
      · rw [decide_eq_true e1]
        refine iteT (B := N H2) ?_
        refine ⟨.int p.2.2, rfl, .ref b, rfl, b, _, rfl, .inr (SqT.of hb2), rfl, flat_ints _, _, rfl, ?_⟩
        rw [inV_ints]
        by_cases e2 : p.2.2 ∈ S
        · rw [decide_eq_true e2]
          exact iteT ⟨.int p.2.1, rfl, hN1 (by simp [e1, e2]) H2 _ (Same.refl _) rfl⟩
        · rw [decide_eq_false e2]
          exact iteF (hN2 (by simp [e1, e2]) H2 (Same.refl _))
      · rw [decide_eq_false e1]
        exact iteF (hN2 (by simp [e1]) H2 (Same.refl _))
    · have ey : ys = ((A.filter fun p => decide (p.2.1 ∈ S) && decide (p.2.2 ∈ S)).map (·.2.1)).map V.int := by
        rw [List.map_map]
        exact paired_fn pr
      subst ey
      have l1 : ((A.filter fun p => decide (p.2.1 ∈ S) && decide (p.2.2 ∈ S)).map (·.2.1)).length ≤ 36 := by
        rw [List.length_map]
        exact Nat.le_trans (List.length_filter_le _ _) hfew
      refine ⟨L, _, rfl, SqL.of hL, by omega, fun p1 c hc n1 => ?_⟩
      refine ⟨p1, _, c, rfl, upd_same, by omega, fun ns p2 pw mem _ n2 => ?_⟩
      have e : ns = quenchL n (arr A) S := by
        refine asc_ext pw (asc_quenchL n _ S) fun x => ?_
        rw [mem, decide_eq_true_iff, mem_quenchL W.ok, List.mem_map]
        constructor
        · rintro ⟨p, hp, rfl⟩
          obtain ⟨h1, h2⟩ := List.mem_filter.1 hp
          simp at h2
          exact ⟨h2.1, p.2.2, h2.2, arr_mem.2 (List.mem_map.2 ⟨p, h1, rfl⟩)⟩
        · rintro ⟨h1, j, hj, e⟩
          obtain ⟨p, hp, e⟩ := List.mem_map.1 (arr_mem.1 e)
          refine ⟨p, List.mem_filter.2 ⟨hp, ?_⟩, by rw [e]⟩
          simp [e, hj, h1]
      subst e
      exact q _ p2 (s2.trans ((same_new n1).trans (same_new n2))) upd_same
def sp_changed : Sp := fun vs H Q _ => ∃ (b : Addr) (n : Nat) (S : List Int) (k : Int), vs = [.ref b, .int k] ∧ TI H b S ∧ St n S ∧ n ≤ 6 ∧ ∀ H' p, Same H H' → TI H' p (chg S k) → Q (.ref p) H'
theorem ok_changed (T : Bi mg) (D : Has K mg "changed" s_changed ["burning", "lamp"]) : Cal P w K mg base 1 "changed" ["burning", "lamp"] sp_changed := by
  refine Cal.of D sc_changed (fun vs H Q E h => ?_) (fun f cdv A0 outer s H vs Q E hr h => ?_)
  · obtain ⟨b, n, S, k, rfl, _⟩ := h
    rfl
  · obtain ⟨b, n, S, k, rfl, hb, hS, h6, q⟩ := h
    have lS := hS.few
    refine ⟨_, pss_cons (ps_if (pt_cmpR op_in_seq (pv 1) (pv 0) (by rfl)) (pss_one (ps_ret (pe_callTy call_tuple_of (by rfl) T.tuple boot_tuple (pa_cons 
        (pe_lc (own := [("k", 2)]) (g := gName 2) rfl sc_changed.nd (pi_tup (pv 0)) (blkOk_by (own := [("k", 2)]) (N := ["burning", "lamp", "k"]) (sc := defScope s_changed) (by decide +kernel))
          (fun _ _ _ _ _ => (pg_name (i := 2) sc_changed.nd rfl (.inl rfl))) (fun _ _ _ _ _ => (pts_one (pt_cmpR op_ne (pv 2) (pv 1) (nomark _)))) (fun _ _ _ _ _ => (pv 2))) pa_nil)))) pss_nil)
      (pss_one (ps_ret (pe_callTy call_tuple_of (by rfl) T.tuple boot_tuple (pa_cons (pe_callB (cr_sortedTI hr.units) (by rfl) T.sorted boot_sorted (pa_cons (pe_op op_catA (pv 0) (pe_tup (pa_cons (pv 1) pa_nil))) pa_nil)) pa_nil)))), ?_⟩
    refine ⟨.int k, rfl, .ref b, rfl, b, _, rfl, .inr (SqT.of hb), rfl, flat_ints _, _, rfl, ?_⟩
    rw [inV_ints]
    by_cases hk : k ∈ S
    · rw [decide_eq_true hk]
      refine iteT ?_
      refine ⟨.ref b, rfl, b, rfl, ⟨_, SqT.of hb⟩, fun L nL => ?_⟩
      refine lc_fm walk_tup S V.int (by rw [List.length_map]) (fun i H x H' y => yat_of y) (fun j => decide (j ≠ k)) (fun j y _ => y = .int j) nL (by omega) (fun H2 s2 => SqT.of (s2 _ _ hb)) (fun _ _ _ _ _ _ e => e) (fun j H2 N hj s2 hL hN1 hN2 => ?_) (fun H2 ys s2 hL pr => ?_)
      · refine ⟨rfl, .int j, rfl, .int k, rfl, rfl, _, rfl, ?_⟩
        by_cases e : j = k
        · rw [decide_eq_true (congrArg V.int e)]
          exact iteF (hN2 (by simp [e]) H2 (Same.refl _))
        · rw [decide_eq_false (fun z => e (V.int.inj z))]
          exact iteT ⟨.int j, rfl, hN1 (by simp [e]) H2 _ (Same.refl _) rfl⟩
      · have ey := paired_fn pr
        subst ey
        refine ⟨L, _, rfl, .inl ⟨SqL.of hL, fun p np => ?_⟩⟩
        refine q _ p (s2.trans (same_new np)) ?_
        have : chg S k = S.filter fun j => decide (j ≠ k) := by unfold chg; rw [if_pos hk]
        rw [this]
        exact upd_same
    · rw [decide_eq_false hk]
      refine iteF ?_
      refine ⟨.ref b, rfl, .int k, rfl, by show 1 ≤ sizeLine; decide, fun p1 n1 => ?_⟩
      have s1 := same_new (o := .tup [.int k]) n1
      have key : ∀ (H2 : Hp) (p2 : Addr), Same H H2 → TI H2 p2 (S ++ [k]) → rSortedTI K [.ref p2] H2 fun x H3 => ∃ p ys, [x] = [.ref p] ∧ ((SqL K H3 p ys ∧ ∀ l, H3 l = none → Q (.ref l) (upd H3 l (.tup ys))) ∨ (SqT K H3 p ys ∧ Q (.ref p) H3)) := by
        intro H2 p2 s2 h2
        refine ⟨p2, S ++ [k], rfl, SqT.of h2, by simp; omega, fun ns p3 pm le n3 => ⟨p3, _, rfl, .inl ⟨SqL.of upd_same, fun p4 n4 => ?_⟩⟩⟩
        have e := chg_ins hS.asc hk pm le
        subst e
        exact q _ p4 (s2.trans ((same_new n3).trans (same_new n4))) upd_same
      refine ⟨b, p1, S.map V.int, [.int k], rfl, rfl, SqT.of (s1 _ _ hb), SqT.of upd_same, small (by simp; omega), fun e => ?_, fun _ e => by simp at e, fun e _ p2 n2 => ?_⟩
      · have e : S = [] := by simpa using e
        exact key _ p1 s1 (by rw [e]; exact upd_same)
      · refine key _ p2 (s1.trans (same_new n2)) ?_
        show upd _ _ _ p2 = _
        rw [upd_same, List.map_append]
        rfl
def sp_doable : Sp := fun vs H Q _ => ∃ (a b : Addr) (n : Nat) (A : List (Addr × Int × Int)) (S : List Int), vs = [.ref a, .ref b] ∧ WebAt H a n A ∧ TI H b S ∧ St n S ∧
  ∀ H' p, Same H H' → LI H' p (doable n (arr A) S) → Q (.ref p) H'
theorem ok_doable (T : Bi mg) (D : Has K mg "doable" s_doable ["web", "burning"]) (C_light_in : Cal P w K mg base 1 "light_in" ["web", "burning"] sp_light_in) (C_quench_in : Cal P w K mg base 1 "quench_in" ["web", "burning"] sp_quench_in) : Cal P w K mg base 2 "doable" ["web", "burning"] sp_doable := by
  refine Cal.of D sc_doable (fun vs H Q E h => ?_) (fun f cdv A0 outer s H vs Q E hr h => ?_)
  · obtain ⟨a, b, n, A, S, rfl, _⟩ := h
    rfl
  · obtain ⟨a, b, n, A, S, rfl, W, hb, hS, q⟩ := h
    refine ⟨_, pss_one (ps_ret (pe_callB cr_sorted (by rfl) T.sorted boot_sorted (pa_cons (pe_op op_cat (pe_cal C_light_in (hr.mono (by decide)) (by rfl) (pa_cons (pv 0) (pa_cons (pv 1) pa_nil))) (pe_cal C_quench_in (hr.mono (by decide)) (by rfl) (pa_cons (pv 0) (pa_cons (pv 1) pa_nil)))) pa_nil))), ?_⟩
    refine ⟨.ref a, rfl, .ref b, rfl, a, b, n, A, S, rfl, W, hb, hS, fun H1 p1 s1 h1 => ?_⟩
    refine ⟨.ref a, rfl, .ref b, rfl, a, b, n, A, S, rfl, W.same s1, s1 _ _ hb, hS, fun H2 p2 s2 h2 => ?_⟩
    have f1 : (lightL n (arr A) S).length ≤ 6 := few_lamps W.n6 _
    have f2 : (quenchL n (arr A) S).length ≤ 6 := few_lamps W.n6 _
    refine ⟨p1, p2, _, _, rfl, rfl, s2 _ _ h1, h2, small (by rw [List.length_map, List.length_map]; omega), fun p3 n3 => ?_⟩
    refine ⟨p3, lightL n (arr A) S ++ quenchL n (arr A) S, rfl, SqL.of (by rw [upd_same, List.map_append]), by rw [List.length_append]; omega, fun ns p4 pm le n4 => ?_⟩
    have e := doable_of W.ok pm le
    subst e
    exact q _ p4 ((s1.trans s2).trans ((same_new n3).trans (same_new n4))) upd_same
end
end Pl


set_option Elab.async false
set_option linter.all false
set_option maxRecDepth 100000
set_option maxHeartbeats 4000000
namespace Pl
open PySem PySem.Spec PyProof.Rows L2 Pr
/-! ### standings as keys -/
def ky (S : List Int) : List Key := S.map Sum.inl
theorem ky_kV (S : List Int) : (ky S).map kV = S.map V.int := by
  unfold ky
  rw [List.map_map]
  rfl
theorem ky_inj {S T : List Int} (e : ky S = ky T) : S = T := by
  have h : (ky S).map kV = (ky T).map kV := by rw [e]
  rw [ky_kV, ky_kV] at h
  exact (List.map_inj_right (fun a b e => V.int.inj e)).1 h
theorem ti_ky {H : Hp} {b : Addr} {S : List Int} (h : TI H b S) : H b = some (.tup ((ky S).map kV)) := by rw [ky_kV]; exact h
abbrev Kvs := List (List Key × V)
/-- what stands in the keys -/
def KeysOk (n : Nat) (E : Int → Int → Bool) (S : List Int) (kvs : Kvs) : Prop := ∃ Ss : List (List Int), kvs.map (·.1) = Ss.map ky ∧ Ss.Nodup ∧ ∀ T ∈ Ss, St n T ∧ Reach E S T
theorem KeysOk.few {n : Nat} {E : Int → Int → Bool} {S : List Int} {kvs : Kvs} (h : KeysOk n E S kvs) (h6 : n ≤ 6) : kvs.length ≤ 64 := by
  obtain ⟨Ss, e, nd, hs⟩ := h
  have h1 := congrArg List.length e
  rw [List.length_map, List.length_map] at h1
  have := st_count6 h6 nd fun T hT => (hs T hT).1
  omega
theorem KeysOk.put {n : Nat} {E : Int → Int → Bool} {S : List Int} {kvs : Kvs} (h : KeysOk n E S kvs) {T : List Int} {v : V} (hT : St n T) (hr : Reach E S T) : KeysOk n E S (putK kvs (ky T) v) := by
  obtain ⟨Ss, e, nd, hs⟩ := h
  by_cases q : (valV kvs (ky T)).isSome = true
  · refine ⟨Ss, ?_, nd, hs⟩
    unfold putK
    rw [valV_any, if_pos q, List.map_map, ← e]
    refine List.map_congr_left fun p _ => ?_
    show (if p.1 = ky T then (p.1, v) else p).1 = p.1
    split <;> rfl
  · have q' : valV kvs (ky T) = none := by simpa using q
    have nm : T ∉ Ss := fun hm => by
      have := valV_not q'
      rw [e] at this
      exact this (List.mem_map.2 ⟨T, hm, rfl⟩)
    refine ⟨Ss ++ [T], ?_, nd_snoc nd nm, fun U hU => ?_⟩
    · rw [putK_new _ q', List.map_append, List.map_append, e]
      rfl
    · rcases List.mem_append.1 hU with hU | hU
      · exact hs U hU
      · have : U = T := by simpa using hU
        subst this
        exact ⟨hT, hr⟩
/-- what the walk knows: each standing that can come, with its least number of deeds -/
structure Told (n : Nat) (E : Int → Int → Bool) (S : List Int) (kvs : Kvs) : Prop where
  get : ∀ T v, valV kvs (ky T) = some v ↔ ∃ m : Nat, v = .int m ∧ IsDist E S T m
  keys : KeysOk n E S kvs
structure Lay (n : Nat) (E : Int → Int → Bool) (S : List Int) (r : Nat) (kvs : Kvs) (R : List (List Int)) : Prop where
  get : ∀ T v, valV kvs (ky T) = some v ↔ ∃ m : Nat, v = .int m ∧ m ≤ r ∧ IsDist E S T m
  rows : ∀ T, T ∈ R ↔ IsDist E S T r
  nd : R.Nodup
  keys : KeysOk n E S kvs
structure Bfs (n : Nat) (E : Int → Int → Bool) (S : List Int) (r : Nat) (P : List (List Int × Int)) (kvs : Kvs) (more : List (List Int)) : Prop where
  get : ∀ T v, valV kvs (ky T) = some v ↔ ∃ m : Nat, v = .int m ∧ ((m ≤ r ∧ IsDist E S T m) ∨ (m = r + 1 ∧ IsDist E S T (r + 1) ∧ ∃ p ∈ P, chg p.1 p.2 = T))
  mo : ∀ T, T ∈ more ↔ IsDist E S T (r + 1) ∧ ∃ p ∈ P, chg p.1 p.2 = T
  nd : more.Nodup
  keys : KeysOk n E S kvs
section
variable {n : Nat} {E : Int → Int → Bool} {S : List Int} {r : Nat} {kvs : Kvs} {R more : List (List Int)} {P : List (List Int × Int)}
theorem reach_self : Reach E S S := ⟨[], rfl⟩
theorem lay_start (hS : St n S) : Lay n E S 0 [(ky S, .int 0)] [S] := by
  refine ⟨fun T v => ?_, fun T => ?_, by simp, [S], rfl, by simp, fun T hT => ?_⟩
  · by_cases e : S = T
    · subst e
      rw [valV_pos (p := (ky S, V.int 0)) rfl]
      constructor
      · intro h
        have h := Option.some.inj h
        exact ⟨0, h.symm, Nat.le_refl _, dist_self E S⟩
      · rintro ⟨m, rfl, hm, _⟩
        have : m = 0 := by omega
        subst this
        rfl
    · rw [valV_neg (p := (ky S, V.int 0)) (fun z => e (ky_inj z)), valV_nil]
      constructor
      · intro h; cases h
      · rintro ⟨m, _, hm, hd⟩
        have : m = 0 := by omega
        subst this
        exact absurd (dist_zero hd) e
  · constructor
    · intro h
      have : T = S := by simpa using h
      subst this
      exact dist_self E T
    · intro h
      rw [dist_zero h]
      simp
  · have : T = S := by simpa using hT
    subst this
    exact ⟨hS, reach_self⟩
theorem Lay.begin (L : Lay n E S r kvs R) : Bfs n E S r [] kvs [] := by
  refine ⟨fun T v => ?_, fun T => by simp, List.nodup_nil, L.keys⟩
  rw [L.get]
  constructor
  · rintro ⟨m, h1, h2⟩
    exact ⟨m, h1, .inl h2⟩
  · rintro ⟨m, h1, h2 | ⟨_, _, p, hp, _⟩⟩
    · exact ⟨m, h1, h2⟩
    · cases hp
theorem Bfs.skip (B : Bfs n E S r P kvs more) {X : List Int} {k : Int} (h : valV kvs (ky (chg X k)) ≠ none) : Bfs n E S r (P ++ [(X, k)]) kvs more := by
  have key : ∀ T, IsDist E S T (r + 1) → ((∃ p ∈ P ++ [(X, k)], chg p.1 p.2 = T) ↔ ∃ p ∈ P, chg p.1 p.2 = T) := fun T hT => by
    constructor
    · rintro ⟨p, hp, e⟩
      rcases List.mem_append.1 hp with hp | hp
      · exact ⟨p, hp, e⟩
      · have : p = (X, k) := by simpa using hp
        subst this
        cases hv : valV kvs (ky (chg X k)) with
        | none => exact absurd hv h
        | some v =>
          obtain ⟨m, _, hm⟩ := (B.get _ _).1 hv
          have e : chg X k = T := e
          rcases hm with ⟨h1, h2⟩ | ⟨_, _, h3⟩
          · rw [e] at h2
            have := h2.uniq hT
            omega
          · rw [e] at h3
            exact h3
    · rintro ⟨p, hp, e⟩
      exact ⟨p, List.mem_append_left _ hp, e⟩
  refine ⟨fun T v => ?_, fun T => ?_, B.nd, B.keys⟩
  · rw [B.get]
    constructor
    · rintro ⟨m, h1, h2 | ⟨h2, h3, h4⟩⟩
      · exact ⟨m, h1, .inl h2⟩
      · exact ⟨m, h1, .inr ⟨h2, h3, (key T h3).2 h4⟩⟩
    · rintro ⟨m, h1, h2 | ⟨h2, h3, h4⟩⟩
      · exact ⟨m, h1, .inl h2⟩
      · exact ⟨m, h1, .inr ⟨h2, h3, (key T h3).1 h4⟩⟩
  · rw [B.mo]
    constructor
    · rintro ⟨h1, h2⟩
      exact ⟨h1, (key T h1).2 h2⟩
    · rintro ⟨h1, h2⟩
      exact ⟨h1, (key T h1).1 h2⟩
theorem Bfs.new (B : Bfs n E S r P kvs more) {X : List Int} {k : Int} (h : valV kvs (ky (chg X k)) = none) (hX : IsDist E S X r) (hk : can E X k = true) : IsDist E S (chg X k) (r + 1) := by
  refine layer_next (fun ⟨m, hm, hd⟩ => ?_) ⟨X, k, hX, hk, rfl⟩
  have := (B.get (chg X k) (.int m)).2 ⟨m, rfl, .inl ⟨hm, hd⟩⟩
  rw [h] at this
  cases this
theorem Bfs.put (W : WebOk n E) (hS : St n S) (B : Bfs n E S r P kvs more) {X : List Int} {k : Int} (h : valV kvs (ky (chg X k)) = none) (hX : IsDist E S X r) (hk : can E X k = true) :
    Bfs n E S r (P ++ [(X, k)]) (putK kvs (ky (chg X k)) (.int ((r : Int) + 1))) (more ++ [chg X k]) := by
  have hd := B.new h hX hk
  have old : ∀ T, T ≠ chg X k → ((∃ p ∈ P ++ [(X, k)], chg p.1 p.2 = T) ↔ ∃ p ∈ P, chg p.1 p.2 = T) := fun T hT => by
    constructor
    · rintro ⟨p, hp, e⟩
      rcases List.mem_append.1 hp with hp | hp
      · exact ⟨p, hp, e⟩
      · have : p = (X, k) := by simpa using hp
        subst this
        exact absurd e.symm hT
    · rintro ⟨p, hp, e⟩
      exact ⟨p, List.mem_append_left _ hp, e⟩
  have now : ∃ p ∈ P ++ [(X, k)], chg p.1 p.2 = chg X k := ⟨(X, k), by simp, rfl⟩
  have nm : chg X k ∉ more := fun hm => by
    obtain ⟨h1, h2⟩ := (B.mo _).1 hm
    have := (B.get (chg X k) (.int ((r + 1 : Nat) : Int))).2 ⟨r + 1, rfl, .inr ⟨rfl, h1, h2⟩⟩
    rw [h] at this
    cases this
  refine ⟨fun T v => ?_, fun T => ?_, nd_snoc B.nd nm, B.keys.put (hd.st W hS) hd.reach⟩
  · rw [valV_put]
    by_cases e : T = chg X k
    · subst e
      rw [if_pos rfl]
      constructor
      · intro z
        refine ⟨r + 1, ?_, .inr ⟨rfl, hd, now⟩⟩
        rw [← Option.some.inj z]
        simp
      · rintro ⟨m, rfl, h2 | ⟨h2, _⟩⟩
        · have := h2.2.uniq hd
          omega
        · subst h2
          simp
    · rw [if_neg (fun z => e (ky_inj z)), B.get]
      constructor
      · rintro ⟨m, h1, h2 | ⟨h2, h3, h4⟩⟩
        · exact ⟨m, h1, .inl h2⟩
        · exact ⟨m, h1, .inr ⟨h2, h3, (old T e).2 h4⟩⟩
      · rintro ⟨m, h1, h2 | ⟨h2, h3, h4⟩⟩
        · exact ⟨m, h1, .inl h2⟩
        · exact ⟨m, h1, .inr ⟨h2, h3, (old T e).1 h4⟩⟩
  · rw [List.mem_append, B.mo]
    by_cases e : T = chg X k
    · subst e
      exact ⟨fun _ => ⟨hd, now⟩, fun _ => .inr (by simp)⟩
    · rw [old T e]
      constructor
      · rintro (h | h)
        · exact h
        · exact absurd (by simpa using h) e
      · intro h
        exact .inl h
theorem Bfs.done (W : WebOk n E) (L : Lay n E S r kvs R) {kvs' : Kvs} (B : Bfs n E S r (pairs n E R) kvs' more) : Lay n E S (r + 1) kvs' more := by
  have all : ∀ T, IsDist E S T (r + 1) → ∃ p ∈ pairs n E R, chg p.1 p.2 = T := fun T hT => by
    obtain ⟨X, k, h1, h2, h3⟩ := dist_pred hT
    exact ⟨(X, k), (mem_pairs W).2 ⟨(L.rows X).2 h1, h2⟩, h3⟩
  refine ⟨fun T v => ?_, fun T => ?_, B.nd, B.keys⟩
  · rw [B.get]
    constructor
    · rintro ⟨m, h1, h2 | ⟨h2, h3, h4⟩⟩
      · exact ⟨m, h1, by omega, h2.2⟩
      · exact ⟨m, h1, by omega, h2 ▸ h3⟩
    · rintro ⟨m, h1, h2, h3⟩
      by_cases e : m ≤ r
      · exact ⟨m, h1, .inl ⟨e, h3⟩⟩
      · have e : m = r + 1 := by omega
        subst e
        exact ⟨r + 1, h1, .inr ⟨rfl, h3, all T h3⟩⟩
  · rw [B.mo]
    exact ⟨fun h => h.1, fun h => ⟨h, all T h⟩⟩
theorem dist_below : ∀ {m r : Nat} {T : List Int}, IsDist E S T m → r ≤ m → ∃ X, IsDist E S X r
  | 0, r, T, h, hr => by
    have : r = 0 := by omega
    subst this
    exact ⟨T, h⟩
  | m + 1, r, T, h, hr => by
    by_cases e : r = m + 1
    · subst e; exact ⟨T, h⟩
    · obtain ⟨X, k, h1, _, _⟩ := dist_pred h
      exact dist_below h1 (by omega)
theorem Lay.told (L : Lay n E S r kvs []) : Told n E S kvs := by
  refine ⟨fun T v => ?_, L.keys⟩
  rw [L.get]
  constructor
  · rintro ⟨m, h1, _, h3⟩
    exact ⟨m, h1, h3⟩
  · rintro ⟨m, h1, h3⟩
    refine ⟨m, h1, Nat.le_of_not_lt fun z => ?_, h3⟩
    obtain ⟨X, hX⟩ := dist_below h3 (Nat.le_of_lt z)
    cases (L.rows X).2 hX
theorem pairs_next (n : Nat) (E : Int → Int → Bool) (R : List (List Int)) (X : List Int) : pairs n E (R ++ [X]) = pairs n E R ++ (doable n E X).map fun k => (X, k) := by
  unfold pairs
  rw [List.flatMap_append]
  simp
end
/-! ### heaps where tuples stay -/
def Tups (H H' : Hp) : Prop := ∀ b xs, H b = some (.tup xs) → H' b = some (.tup xs)
theorem Tups.refl (H : Hp) : Tups H H := fun _ _ h => h
theorem Tups.trans {H H1 H2 : Hp} (a : Tups H H1) (b : Tups H1 H2) : Tups H H2 := fun c o h => b c o (a c o h)
theorem tups_same {H H' : Hp} (h : Same H H') : Tups H H' := fun b xs e => h b _ e
theorem tups_upd {H : Hp} {r : Addr} {o o' : HO} (h : H r = some o) (ho : ∀ xs, o ≠ .tup xs) : Tups H (upd H r o') := fun b xs e => by
  rw [upd_ne (ne_of e h (fun z => ho xs z.symm))]
  exact e
theorem WebAt.tups {H H' : Hp} {a : Addr} {n : Nat} {A : List (Addr × Int × Int)} (W : WebAt H a n A) (s : Tups H H') : WebAt H' a n A :=
  ⟨let ⟨t, h1, h2⟩ := W.at_; ⟨t, s _ _ h1, s _ _ h2⟩, fun p hp => s _ _ (W.each p hp), W.ok, W.few, W.n1, W.n6⟩
/-- a list of standings stands at l -/
def Rw (H : Hp) (l : Addr) (bs : List (Addr × List Int)) : Prop := H l = some (.lst (bs.map fun p => V.ref p.1)) ∧ ∀ p ∈ bs, TI H p.1 p.2
theorem Rw.keep {H H' : Hp} {l : Addr} {bs : List (Addr × List Int)} (h : Rw H l bs) (t : Tups H H') (e : ∀ xs, H l = some (.lst xs) → H' l = some (.lst xs)) : Rw H' l bs := ⟨e _ h.1, fun p hp => t _ _ (h.2 p hp)⟩
theorem Rw.put {H H' : Hp} {l : Addr} {bs : List (Addr × List Int)} {p : Addr × List Int} (h : Rw H l bs) (hp : TI H p.1 p.2) (t : Tups H H') (e : H' l = some (.lst (bs.map (fun p => V.ref p.1) ++ [.ref p.1]))) : Rw H' l (bs ++ [p]) := by
  refine ⟨by rw [e, List.map_append]; rfl, fun q hq => ?_⟩
  rcases List.mem_append.1 hq with hq | hq
  · exact t _ _ (h.2 q hq)
  · have : q = p := by simpa using hq
    subst this
    exact t _ _ hp
end Pl


set_option Elab.async false
set_option linter.all false
set_option maxRecDepth 100000
set_option maxHeartbeats 4000000
namespace Pl
open PySem PySem.Spec PyProof.Rows L2 Pr
abbrev s_steps_from : Stmt := topS 22
theorem sc_steps_from : FnScope ["web", "burning", "found", "rows", "more", "here", "lamp", "there"] ["web", "burning"] (defScope s_steps_from) := ⟨rfl, rfl, rfl, by decide +kernel, rfl, by decide +kernel, by decide +kernel⟩
abbrev s_steps_to : Stmt := topS 24
theorem sc_steps_to : FnScope ["web", "burning"] ["web", "burning"] (defScope s_steps_to) := ⟨rfl, rfl, rfl, by decide +kernel, rfl, by decide +kernel, by decide +kernel⟩
section
variable {P : Program} {w : World} {K : PySem.W.Frag} {mg : Str → Option Value} {base : Heap}
theorem tup_same {H : Hp} {p : Addr} {o : HO} (h : H p = none) : Tups H (upd H p o) := tups_same (same_new h)
def sp_steps_from : Sp := fun vs H Q _ => ∃ (a b : Addr) (n : Nat) (A : List (Addr × Int × Int)) (S : List Int), vs = [.ref a, .ref b] ∧ WebAt H a n A ∧ TI H b S ∧ St n S ∧
  ∀ H' d kvs, Same H H' → H' d = some (.dT kvs) → Told n (arr A) S kvs → Q (.ref d) H'
theorem ok_steps_from (T : Bi mg) (D : Has K mg "steps_from" s_steps_from ["web", "burning"]) (C_doable : Cal P w K mg base 2 "doable" ["web", "burning"] sp_doable) (C_changed : Cal P w K mg base 1 "changed" ["burning", "lamp"] sp_changed) : Cal P w K mg base 3 "steps_from" ["web", "burning"] sp_steps_from := by
  refine Cal.of D sc_steps_from (fun vs H Q E h => ?_) (fun f cdv A0 outer s H vs Q E hr h => ?_)
  · obtain ⟨a, b, n, A, S, rfl, _⟩ := h
    rfl
  · obtain ⟨a, b, n, A, S, rfl, W, hb, hS, q⟩ := h
    have hu := hu_of hr
    have h6 := W.n6
    refine ⟨_, pss_cons (ps_par (i := 2) (j := 3) rfl sc_steps_from.nd rfl rfl (by decide) rfl rfl (pa_cons (pe_disp1T hu (pv 1) pe_int) (pa_cons (pe_lst (pa_cons (pv 1) pa_nil)) pa_nil)) (by rfl))
      (pss_cons (ps_while PassesOwn.never (pt_cmpR (op_neD hr.units) (pv 3) (pe_lst pa_nil) (nomark _)) (pss_cons (ps_set (i := 4) sc_steps_from.nd rfl (.inl rfl) (pe_lst pa_nil))
      (pss_cons (ps_for PassesOwn.never rfl (pi_list (pv 3)) (pg_name (i := 5) sc_steps_from.nd rfl (.inl rfl))
      (pss_one (ps_for PassesOwn.never rfl (pi_list (pe_cal C_doable (hr.mono (by decide)) (by rfl) (pa_cons (pv 0) (pa_cons (pv 5) pa_nil)))) (pg_name (i := 6) sc_steps_from.nd rfl (.inl rfl))
      (pss_cons (ps_set (i := 7) sc_steps_from.nd rfl (.inl rfl) (pe_cal C_changed (hr.mono (by decide)) (by rfl) (pa_cons (pv 5) (pa_cons (pv 6) pa_nil))))
      (pss_one (ps_if (pt_cmp (pc_dnotin hu (pv 7) (pv 2))) (pss_cons (ps_dput hu (pv 2) (pv 7) (pe_op op_add (pe_dget hu (pv 2) (pv 5) (fun _ _ => rfl)) pe_int) rfl)
      (pss_one (ps_expr (pe_bm PySem.F.plainAttrs_list PySem.F.slot_list_append PySem.F.type_list_append mt_append (pv 4) (pa_cons (pv 7) pa_nil))))) pss_nil))))))
      (pss_one (ps_set (i := 3) sc_steps_from.nd rfl (.inl rfl) (pv 4))))))
      (pss_one (ps_ret (pv 2)))), ?_⟩
    refine fun d nd => ⟨.ref b, rfl, b, ky S, rfl, ti_ky (same_new nd _ _ hb), upd_same, ?_⟩
    refine ⟨.ref b, rfl, by show 1 ≤ sizeLine; decide, fun l nl => ⟨_, _, rfl, ?_⟩⟩
    rw [upd_upd] at nl ⊢
    have s1 := same_new (o := .dT [(ky S, .int 0)]) nd
    have s2 := s1.trans (same_new (o := .lst [.ref b]) nl)
    have d2 : (upd (upd H d (.dT [(ky S, .int 0)])) l (.lst [.ref b])) d = some (.dT [(ky S, .int 0)]) := same_new nl _ _ upd_same
    have r2 : Rw (upd (upd H d (.dT [(ky S, .int 0)])) l (.lst [.ref b])) l [(b, S)] := ⟨upd_same, fun p hp => by
      have : p = (b, S) := by simpa using hp
      subst this
      exact s2 _ _ hb⟩
    generalize upd (upd H d (.dT [(ky S, .int 0)])) l (.lst [.ref b]) = H2 at s2 d2 r2
    refine ⟨fun m σ H3 => ∃ (l : Addr) (bs : List (Addr × List Int)) (r : Nat) (kvs : Kvs) (y4 y5 y6 y7 : Option V), σ = [some (.ref a), some (.ref b), some (.ref d), some (.ref l), y4, y5, y6, y7] ∧ Same H H3 ∧ H3 d = some (.dT kvs) ∧ Rw H3 l bs ∧ Lay n (arr A) S r kvs (bs.map (·.2)) ∧ m = (if bs = [] then 0 else 65 - r),
      ⟨_, l, [(b, S)], 0, _, none, none, none, none, rfl, s2, d2, r2, lay_start hS, rfl⟩, fun m σ H3 ⟨l, bs, r, kvs, y4, y5, y6, y7, e, s3, d3, r3, L, hm⟩ => ?_⟩
    subst e hm
    clear s2 d2 r2 nl s1
    -- while rows != []
    refine ⟨.ref l, rfl, Nat.zero_le _, fun M0 nM0 => ?_⟩
    have t0 := same_new (o := .lst []) nM0
    refine ⟨.list (bs.map fun p => tupD p.2), .list [], .lst (SqL.of (t0 _ _ r3.1)) (dpAll_tups fun p hp => t0 _ _ (r3.2 p hp)), .lst (SqL.of upd_same) .nil, shaped_lt bs, rfl, _, rfl, ?_⟩
    rw [eqv_nil, List.isEmpty_map]
    have s4 := s3.trans t0
    have d4 := t0 _ _ d3
    have r4 := r3.keep (tups_same t0) fun _ e => t0 _ _ e
    generalize upd H3 M0 (.lst []) = H4 at t0 s4 d4 r4
    cases hb0 : bs with
    | nil =>
      subst hb0
      exact iteF ⟨.ref d, rfl, q _ d kvs s4 d4 L.told⟩
    | cons p0 b0 =>
      rw [← hb0]
      have ne : bs ≠ [] := by rw [hb0]; simp
      have e0 : bs.isEmpty = false := by rw [hb0]; rfl
      rw [e0]
      refine iteT ?_
      have hr64 : r < 64 := by
        have : p0.2 ∈ bs.map (·.2) := List.mem_map.2 ⟨p0, by rw [hb0]; simp, rfl⟩
        exact dist_lt h6 W.ok hS ((L.rows _).1 this)
      rw [if_neg ne]
      refine ⟨fun σ' H' => ∃ m', m' < 65 - r ∧ ∃ (l : Addr) (bs : List (Addr × List Int)) (r : Nat) (kvs : Kvs) (y4 y5 y6 y7 : Option V), σ' = [some (.ref a), some (.ref b), some (.ref d), some (.ref l), y4, y5, y6, y7] ∧ Same H H' ∧ H' d = some (.dT kvs) ∧ Rw H' l bs ∧ Lay n (arr A) S r kvs (bs.map (·.2)) ∧ m' = (if bs = [] then 0 else 65 - r), fun σ' H' hN => hN, ?_⟩
      -- more = []
      refine ⟨Nat.zero_le _, fun M nM => ?_⟩
      have nMH : H M = none := Same.free s4 nM
      have t5 := same_new (o := .lst []) nM
      -- for here in rows
      refine ⟨.ref l, rfl, l, rfl, ⟨_, SqL.of (t5 _ _ r4.1)⟩, ?_⟩
      have few : bs.length ≤ 64 := by
        have := st_count6 h6 L.nd fun T hT => ((L.rows T).1 hT).st W.ok hS
        rwa [List.length_map] at this
      let Iv : List (List Int × Int) → Hp → Prop := fun P H5 => ∃ (kvs' : Kvs) (mo : List (Addr × List Int)), Same H H5 ∧ H5 d = some (.dT kvs') ∧ H5 l = some (.lst (bs.map fun p => V.ref p.1)) ∧ (∀ p ∈ bs, TI H5 p.1 p.2) ∧ Rw H5 M mo ∧ Bfs n (arr A) S r P kvs' (mo.map (·.2))
      refine for_it (walk_list (K := K) (a := l) (xs := bs.map fun p => V.ref p.1)) (fun i σ H5 => ∃ (y5 y6 y7 : Option V), σ = [some (.ref a), some (.ref b), some (.ref d), some (.ref l), some (.ref M), y5, y6, y7] ∧ Iv (pairs n (arr A) ((bs.take i).map (·.2))) H5)
        ⟨y5, y6, y7, rfl, kvs, [], s4.trans t5, t5 _ _ d4, t5 _ _ r4.1, fun p hp => t5 _ _ (r4.2 p hp), ⟨upd_same, fun p hp => by cases hp⟩, L.begin⟩ (fun i σ H5 _ ⟨_, _, _, _, _, _, _, _, h, _⟩ => SqL.of h) (fun i x σ H5 H6 hi ⟨z5, z6, z7, e, kvs5, mo5, s5, d5, l5, b5, m5, B5⟩ y => ?_) (fun σ H5 ⟨z5, z6, z7, e, kvs5, mo5, s5, d5, l5, b5, m5, B5⟩ => ?_)
      · subst e
        obtain ⟨rfl, p, hp, rfl⟩ := yat_of y
        have pm := List.mem_of_getElem? hp
        have hX : IsDist (arr A) S p.2 r := (L.rows _).1 (List.mem_map.2 ⟨p, pm, rfl⟩)
        have stX := hX.st W.ok hS
        have et : bs.take (i + 1) = bs.take i ++ [p] := by rw [List.take_add_one, hp]; rfl
        have W5 := W.same s5
        -- doable(web, here)
        refine ⟨.ref a, rfl, .ref p.1, rfl, a, p.1, n, A, p.2, rfl, W5, b5 p pm, stX, fun H7 pd s7 hd7 => ?_⟩
        refine ⟨pd, rfl, ⟨_, SqL.of hd7⟩, ?_⟩
        refine for_it (walk_list (K := K) (a := pd) (xs := (doable n (arr A) p.2).map V.int)) (fun j σ H5 => ∃ (y6 y7 : Option V), σ = [some (.ref a), some (.ref b), some (.ref d), some (.ref l), some (.ref M), some (.ref p.1), y6, y7] ∧ LI H5 pd (doable n (arr A) p.2) ∧ Iv (pairs n (arr A) ((bs.take i).map (·.2)) ++ ((doable n (arr A) p.2).take j).map fun k => (p.2, k)) H5)
          ⟨z6, z7, rfl, hd7, kvs5, mo5, s5.trans s7, s7 _ _ d5, s7 _ _ l5, fun p hp => s7 _ _ (b5 p hp), m5.keep (tups_same s7) fun _ e => s7 _ _ e, by simpa using B5⟩ (fun j σ H5 _ ⟨_, _, _, h, _⟩ => SqL.of h) (fun j x σ H8 H9 hj ⟨w6, w7, e, hd8, kvs8, mo8, s8, d8, l8, b8, m8, B8⟩ y => ?_) (fun σ H8 ⟨w6, w7, e, hd8, kvs8, mo8, s8, d8, l8, b8, m8, B8⟩ => ?_)
        · subst e
          obtain ⟨rfl, k, hk, rfl⟩ := yat_of y
          have km := List.mem_of_getElem? hk
          have hc := (mem_doable W.ok).1 km
          have etj : ((doable n (arr A) p.2).take (j + 1)).map (fun k => (p.2, k)) = ((doable n (arr A) p.2).take j).map (fun k => (p.2, k)) ++ [(p.2, k)] := by rw [List.take_add_one, hk, List.map_append]; rfl
          -- there = changed(here, lamp)
          refine ⟨.ref p.1, rfl, .int k, rfl, p.1, n, p.2, k, rfl, b8 p pm, stX, h6, fun H10 pt s10 ht10 => ?_⟩
          have d10 := s10 _ _ d8
          have hd10 := s10 _ _ hd8
          have l10 := s10 _ _ l8
          have m10 := m8.keep (tups_same s10) fun _ e => s10 _ _ e
          have b10 : ∀ p ∈ bs, TI H10 p.1 p.2 := fun p hp => s10 _ _ (b8 p hp)
          have s11 := s8.trans s10
          -- if there not in found
          refine ⟨.ref pt, rfl, .ref d, rfl, d, _, rfl, DGet.t d10 (ti_ky ht10), _, rfl, ?_⟩
          cases hv : valV kvs8 (ky (chg p.2 k)) with
          | some v =>
            refine iteF ⟨_, _, rfl, hd10, kvs8, mo8, s11, d10, l10, b10, m10, ?_⟩
            rw [etj, ← List.append_assoc]
            exact B8.skip (by rw [hv]; simp)
          | none =>
            refine iteT ?_
            have lk := B8.keys.few h6
            have hX8 : valV kvs8 (ky p.2) = some (.int r) := (B8.get _ _).2 ⟨r, rfl, .inl ⟨Nat.le_refl _, hX⟩⟩
            refine ⟨.ref d, rfl, .ref p.1, rfl, d, .int r, rfl, by rw [← hX8]; exact DGet.t d10 (ti_ky (b10 p pm)), r, 1, rfl, rfl, .ref d, rfl, .ref pt, rfl, d, _, rfl, DPut.t d10 (ti_ky ht10) (small' (by omega)), ?_⟩
            have ndM : M ≠ d := ne_of m10.1 d10 (fun z => nomatch z)
            have u1 : Tups H10 (upd H10 d (.dT (putK kvs8 (ky (chg p.2 k)) (.int ((r : Int) + 1))))) := tups_upd d10 (fun _ z => nomatch z)
            have m11 := m10.keep u1 fun xs e => by rw [upd_ne ndM]; exact e
            have lm : mo8.length ≤ 64 := by
              have := st_count6 h6 B8.nd fun T hT => ((B8.mo T).1 hT).1.st W.ok hS
              rwa [List.length_map] at this
            refine ⟨.ref M, rfl, .inl ⟨rfl, _, SqL.of m11.1⟩, .ref pt, rfl, M, _, _, rfl, rfl, m11.1, small' (by rw [List.length_map]; omega), ?_⟩
            have u2 : Tups H10 (upd (upd H10 d (.dT (putK kvs8 (ky (chg p.2 k)) (.int ((r : Int) + 1))))) M (.lst (mo8.map (fun p => V.ref p.1) ++ [.ref pt]))) := u1.trans (tups_upd m11.1 (fun _ z => nomatch z))
            have nlM : l ≠ M := ne_of_none r4.1 nM
            have nld : l ≠ d := ne_of l10 d10 (fun z => nomatch z)
            have npM : pd ≠ M := fun e => by
              have e1 : H10 M = some (.lst ((doable n (arr A) p.2).map V.int)) := e ▸ hd10
              rw [m10.1] at e1
              injection e1 with e1
              injection e1 with e1
              have e2 := congrArg (·[j]?) e1
              simp only [List.getElem?_map, hk] at e2
              cases e3 : mo8[j]? with
              | none => rw [e3] at e2; cases e2
              | some z => rw [e3] at e2; cases e2
            have npd : pd ≠ d := ne_of hd10 d10 (fun z => nomatch z)
            refine ⟨_, _, rfl, ?_, putK kvs8 (ky (chg p.2 k)) (.int ((r : Int) + 1)), mo8 ++ [(pt, chg p.2 k)], fun bb o e => ?_, ?_, ?_, fun p hp => u2 _ _ (b10 p hp), ?_, ?_⟩
            · show upd _ _ _ pd = _
              rw [upd_ne npM, upd_ne npd]
              exact hd10
            · rw [upd_ne (ne_of_none e nMH), upd_ne (ne_of_none e nd)]
              exact s11 _ _ e
            · rw [upd_ne ndM.symm, upd_same]
            · rw [upd_ne nlM, upd_ne nld]
              exact l10
            · exact m10.put (p := (pt, chg p.2 k)) ht10 u2 (by rw [upd_same])
            · rw [etj, ← List.append_assoc, List.map_append]
              exact B8.put W.ok hS hv hX hc
        · subst e
          refine ⟨_, _, _, rfl, kvs8, mo8, s8, d8, l8, b8, m8, ?_⟩
          rw [et, List.map_append]
          show Bfs n (arr A) S r (pairs n (arr A) ((bs.take i).map (·.2) ++ [p.2])) _ _
          rw [pairs_next]
          rwa [List.length_map, List.take_length] at B8
      · subst e
        rw [List.length_map, List.take_length] at B5
        refine ⟨.ref M, rfl, _, ?_, M, mo5, r + 1, kvs5, _, _, _, _, rfl, s5, d5, m5, B5.done W.ok L, rfl⟩
        split
        · omega
        · omega
def sp_steps_to : Sp := fun vs H Q _ => ∃ (a b : Addr) (n : Nat) (A : List (Addr × Int × Int)) (T : List Int), vs = [.ref a, .ref b] ∧ WebAt H a n A ∧ TI H b T ∧ St n T ∧
  ∀ H' d kvs, Same H H' → H' d = some (.dT kvs) → kvs.length ≤ 64 → (∀ X, St n X → ∀ v, valV kvs (ky X) = some v ↔ ∃ m : Nat, v = .int m ∧ IsDist (arr A) X T m) → Q (.ref d) H'
theorem ok_steps_to (T : Bi mg) (D : Has K mg "steps_to" s_steps_to ["web", "burning"]) (C_turned_in : Cal P w K mg base 1 "turned_in" ["web"] sp_turned_in) (C_steps_from : Cal P w K mg base 3 "steps_from" ["web", "burning"] sp_steps_from) : Cal P w K mg base 4 "steps_to" ["web", "burning"] sp_steps_to := by
  refine Cal.of D sc_steps_to (fun vs H Q E h => ?_) (fun f cdv A0 outer s H vs Q E hr h => ?_)
  · obtain ⟨a, b, n, A, S, rfl, _⟩ := h
    rfl
  · obtain ⟨a, b, n, A, S, rfl, W, hb, hS, q⟩ := h
    refine ⟨_, pss_one (ps_ret (pe_cal C_steps_from (hr.mono (by decide)) (by rfl) (pa_cons (pe_cal C_turned_in (hr.mono (by decide)) (by rfl) (pa_cons (pv 0) pa_nil)) (pa_cons (pv 1) pa_nil)))), ?_⟩
    refine ⟨.ref a, rfl, a, n, A, rfl, W, fun H1 p B s1 WB eB => ?_⟩
    refine ⟨.ref b, rfl, p, b, n, B, S, rfl, WB, s1 _ _ hb, hS, fun H2 d kvs s2 hd L => ?_⟩
    refine q _ d kvs (s1.trans s2) hd (L.keys.few W.n6) fun X hX v => ?_
    rw [L.get, eB]
    constructor
    · rintro ⟨m, e, h⟩
      exact ⟨m, e, dist_rev W.ok hX hS h⟩
    · rintro ⟨m, e, h⟩
      exact ⟨m, e, dist_rev (E := rev (arr A)) W.ok.rev hS hX h⟩
end
end Pl


set_option Elab.async false
set_option linter.all false
set_option maxRecDepth 100000
set_option maxHeartbeats 4000000
namespace Pl
open PySem PySem.Spec PyProof.Rows L2 Pr
abbrev s_way_between : Stmt := topS 25
theorem sc_way_between : FnScope ["web", "one", "other", "told", "found", "here", "lamps", "lamp", "k"] ["web", "one", "other"] (defScope s_way_between) := ⟨rfl, rfl, rfl, by decide +kernel, rfl, by decide +kernel, by decide +kernel⟩
/-- a sentence as a truth value -/
noncomputable def isB (p : Prop) : Bool := @decide p (Classical.propDecidable p)
theorem isB_iff {p : Prop} : isB p = true ↔ p := @decide_eq_true_iff p (Classical.propDecidable p)
theorem isB_not {p : Prop} (h : ¬ p) : isB p = false := Bool.eq_false_iff.2 fun z => h (isB_iff.1 z)
/-- what steps_to tells of each standing -/
def Back2 (n : Nat) (E : Int → Int → Bool) (T : List Int) (kvs : Kvs) : Prop := ∀ X, St n X → ∀ v, valV kvs (ky X) = some v ↔ ∃ m : Nat, v = .int m ∧ IsDist E X T m
theorem Back2.at_ {n : Nat} {E : Int → Int → Bool} {T X : List Int} {kvs : Kvs} (h : Back2 n E T kvs) (hX : St n X) {m : Nat} (d : IsDist E X T m) : valV kvs (ky X) = some (.int m) := (h X hX _).2 ⟨m, rfl, d⟩
theorem Back2.or {n : Nat} {E : Int → Int → Bool} {T X : List Int} {kvs : Kvs} (h : Back2 n E T kvs) (hX : St n X) : ∃ i : Int, (valV kvs (ky X)).getD (.int (-1)) = .int i ∧ ∀ e : Nat, i = e ↔ IsDist E X T e := by
  cases hv : valV kvs (ky X) with
  | none =>
    refine ⟨-1, rfl, fun e => ⟨fun z => by omega, fun z => ?_⟩⟩
    have := h.at_ hX z
    rw [hv] at this
    cases this
  | some v =>
    obtain ⟨m, rfl, d⟩ := (h X hX v).1 hv
    refine ⟨m, rfl, fun e => ⟨fun z => ?_, fun z => ?_⟩⟩
    · have : m = e := by omega
      exact this ▸ d
    · rw [d.uniq z]
theorem can_st {n : Nat} {E : Int → Int → Bool} (W : WebOk n E) {S : List Int} (hS : St n S) {k : Int} (h : can E S k = true) : St n (chg S k) := hS.chg (can_mem W h)
section
variable {P : Program} {w : World} {K : PySem.W.Frag} {mg : Str → Option Value} {base : Heap}
def sp_way_between : Sp := fun vs H Q _ => ∃ (a b c : Addr) (n : Nat) (A : List (Addr × Int × Int)) (S U : List Int), vs = [.ref a, .ref b, .ref c] ∧ WebAt H a n A ∧ Lex A ∧ TI H b S ∧ St n S ∧ TI H c U ∧ St n U ∧
  (∀ H', Same H H' → ¬ Reach (arr A) S U → Q .non H') ∧ ∀ H' p ws, Same H H' → IsLeast (arr A) S U ws → TI H' p ws → Q (.ref p) H'
theorem ok_way_between (T : Bi mg) (D : Has K mg "way_between" s_way_between ["web", "one", "other"]) (C_need_two : Cal P w K mg base 5 "need_two" ["web", "one", "other"] sp_need_two) (C_comes_in : Cal P w K mg base 2 "comes_in" ["web", "one", "other"] sp_comes_in) (C_steps_to : Cal P w K mg base 4 "steps_to" ["web", "burning"] sp_steps_to) (C_doable : Cal P w K mg base 2 "doable" ["web", "burning"] sp_doable) (C_changed : Cal P w K mg base 1 "changed" ["burning", "lamp"] sp_changed) : Cal P w K mg base 6 "way_between" ["web", "one", "other"] sp_way_between := by
  refine Cal.of D sc_way_between (fun vs H Q E h => ?_) (fun f cdv A0 outer s H vs Q E hr h => ?_)
  · obtain ⟨a, b, c, n, A, S, U, rfl, _⟩ := h
    rfl
  · obtain ⟨a, b, c, n, A, S, U, rfl, W, lx, hb, hS, hc, hU, q0, q⟩ := h
    have hu := hu_of hr
    have h6 := W.n6
    refine ⟨_, pss_cons (ps_expr (pe_cal C_need_two (hr.mono (by decide)) (by rfl) (pa_cons (pv 0) (pa_cons (pv 1) (pa_cons (pv 2) pa_nil)))))
      (pss_cons (ps_if (pt_not (pt_val (pe_cal C_comes_in (hr.mono (by decide)) (by rfl) (pa_cons (pv 0) (pa_cons (pv 1) (pa_cons (pv 2) pa_nil)))))) (pss_one (ps_ret pe_non)) pss_nil)
      (pss_cons (ps_asg (pe_tup (pa_cons (pe_cal C_steps_to (hr.mono (by decide)) (by rfl) (pa_cons (pv 0) (pa_cons (pv 2) pa_nil))) (pa_cons (pe_lst pa_nil) (pa_cons (pv 1) pa_nil)))) (pg_tup rfl (pgs_cons (pg_name (i := 3) sc_way_between.nd rfl (.inr rfl)) (pgs_cons (pg_name (i := 4) sc_way_between.nd rfl (.inl rfl)) (pgs_cons (pg_name (i := 5) sc_way_between.nd rfl (.inr rfl)) pgs_nil)))))
      (pss_cons (ps_while PassesOwn.never (pt_cmpR (op_neD hr.units) (pv 5) (pv 2) (nomark _)) (pss_cons (ps_set (i := 6) sc_way_between.nd rfl (.inl rfl) (pe_cal C_doable (hr.mono (by decide)) (by rfl) (pa_cons (pv 0) (pa_cons (pv 5) pa_nil))))
      (pss_cons (ps_set (i := 7) sc_way_between.nd rfl (.inl rfl) (pe_ix ix_list 
        (pe_lc (own := [("k", 8)]) (g := gName 8) rfl sc_way_between.nd (pi_list (pv 6)) (blkOk_by (own := [("k", 8)]) (N := ["web", "one", "other", "told", "found", "here", "lamps", "lamp", "k"]) (sc := defScope s_way_between) (by decide +kernel))
          (fun _ _ _ _ _ => (pg_name (i := 8) sc_way_between.nd rfl (.inl rfl))) (fun _ _ _ _ _ => (pts_one (pt_cmpR op_eq (pe_dget2 hu (pv 3) (pe_cal C_changed (hr.mono (by decide)) (by rfl) (pa_cons (pv 5) (pa_cons (pv 8) pa_nil))) (pe_un un_neg pe_int) ⟨rfl, rfl, rfl, rfl⟩) (pe_op op_sub (pe_dget hu (pv 3) (pv 5) (fun _ _ => rfl)) pe_int) (nomark _)))) (fun _ _ _ _ _ => (pv 8))) pe_int (fun _ _ => rfl)))
      (pss_cons (ps_expr (pe_bm PySem.F.plainAttrs_list PySem.F.slot_list_append PySem.F.type_list_append mt_append (pv 4) (pa_cons (pv 7) pa_nil)))
      (pss_one (ps_set (i := 5) sc_way_between.nd rfl (.inr rfl) (pe_cal C_changed (hr.mono (by decide)) (by rfl) (pa_cons (pv 5) (pa_cons (pv 7) pa_nil)))))))))
      (pss_one (ps_ret (pe_callTy call_tuple_of (by rfl) T.tuple boot_tuple (pa_cons (pv 4) pa_nil))))))), ?_⟩
    refine ⟨.ref a, rfl, .ref b, rfl, .ref c, rfl, a, b, c, n, A, S, U, rfl, W, lx, hb, hS, hc, hU, fun H1 s1 => ?_⟩
    refine ⟨.ref a, rfl, .ref b, rfl, .ref c, rfl, a, b, c, n, A, S, U, rfl, W.same s1, s1 _ _ hb, hS, s1 _ _ hc, hU, fun H2 k s2 hk => ?_⟩
    have s12 := s1.trans s2
    rw [comes_iff W.ok hS hU] at hk
    refine ⟨k, rfl, ?_⟩
    cases k with
    | false => exact iteT (q0 _ s12 fun z => Bool.false_ne_true (hk.2 z))
    | true =>
      refine iteF ?_
      have hR := hk.1 rfl
      refine ⟨.ref a, rfl, .ref c, rfl, a, c, n, A, U, rfl, W.same s12, s12 _ _ hc, hU, fun H3 d kvs s3 hd lk tell => ?_⟩
      have tell : Back2 n (arr A) U kvs := tell
      have s13 := s12.trans s3
      refine ⟨Nat.zero_le _, fun fo nfo => ⟨.ref b, rfl, ?_⟩⟩
      refine ⟨by show 3 ≤ sizeLine; decide, fun tp ntp => ⟨tp, _, rfl, SqT.of upd_same, rfl, _, _, rfl, _, _, rfl, _, _, rfl, rfl, ?_⟩⟩
      have sA := same_new (o := .lst []) nfo
      have sB := same_new (o := .tup [.ref d, .ref fo, .ref b]) ntp
      have s14 := (s13.trans sA).trans sB
      have hfo : LI (upd (upd H3 fo (.lst [])) tp (.tup [.ref d, .ref fo, .ref b])) fo [] := sB _ _ upd_same
      have hd4 := sB _ _ (sA _ _ hd)
      have nfoH : H fo = none := Same.free s13 nfo
      generalize upd (upd H3 fo (.lst [])) tp (.tup [.ref d, .ref fo, .ref b]) = H4 at s14 hfo hd4
      obtain ⟨m0, dm0⟩ := dist_of_reach hR
      have lm0 := dist_lt h6 W.ok hS dm0
      refine ⟨fun m σ H5 => ∃ (h : Addr) (here found : List Int) (y6 y7 : Option V), σ = [some (.ref a), some (.ref b), some (.ref c), some (.ref d), some (.ref fo), some (.ref h), y6, y7, none] ∧ Same H H5 ∧ H5 d = some (.dT kvs) ∧ LI H5 fo found ∧ TI H5 h here ∧ St n here ∧ Greedy (arr A) S U found here m,
        ⟨m0, b, S, [], none, none, rfl, s14, hd4, hfo, s14 _ _ hb, hS, greedy_start dm0⟩, fun m σ H5 ⟨h, here, found, y6, y7, e, s5, d5, f5, h5, st, g⟩ => ?_⟩
      subst e
      clear s14 hfo hd4 sA sB ntp
      have lf : found.length + m < 64 := by have := g.all.uniq dm0; omega
      -- while here != other
      refine ⟨.ref h, rfl, .ref c, rfl, tupD here, tupD U, dp_ti (.of h5), dp_ti (.of (s5 _ _ hc)), shaped_ti _, shaped_ti _, _, rfl, ?_⟩
      rw [eqv_ti]
      by_cases eh : here = U
      · subst eh
        rw [decide_eq_true rfl]
        refine iteF ?_
        refine ⟨.ref fo, rfl, fo, _, rfl, .inl ⟨SqL.of f5, fun p np => q _ p found (s5.trans (same_new np)) (greedy_end g) upd_same⟩⟩
      · rw [decide_eq_false eh]
        refine iteT ?_
        obtain ⟨e, k0, rfl, c0, d0⟩ := greedy_has W.ok g eh
        refine ⟨fun σ' H' => ∃ m', m' < e + 1 ∧ ∃ (h : Addr) (here found : List Int) (y6 y7 : Option V), σ' = [some (.ref a), some (.ref b), some (.ref c), some (.ref d), some (.ref fo), some (.ref h), y6, y7, none] ∧ Same H H' ∧ H' d = some (.dT kvs) ∧ LI H' fo found ∧ TI H' h here ∧ St n here ∧ Greedy (arr A) S U found here m', fun σ' H' hN => hN, ?_⟩
        -- lamps = doable(web, here)
        refine ⟨.ref a, rfl, .ref h, rfl, a, h, n, A, here, rfl, W.same s5, h5, st, fun H6 pl s6 hl => ?_⟩
        have s56 := s5.trans s6
        have d6 := s6 _ _ d5
        have f6 := s6 _ _ f5
        have h6' := s6 _ _ h5
        refine ⟨.ref pl, rfl, pl, rfl, ⟨_, SqL.of hl⟩, fun L nL => ?_⟩
        have ld : (doable n (arr A) here).length ≤ 6 := few_lamps h6 _
        refine lc_fm walk_list (doable n (arr A) here) V.int (by rw [List.length_map]) (fun i H x H' y => yat_of y) (fun k => isB (IsDist (arr A) (chg here k) U e)) (fun k y _ => y = .int k) nL (by omega) (fun H2 s2 => SqL.of (s2 _ _ hl)) (fun _ _ _ _ _ _ e => e) (fun k H7 N hkm s7 hL hN1 hN2 => ?_) (fun H7 ys s7 hL pr => ?_)
        · refine ⟨rfl, ?_⟩
          have kc := (mem_doable W.ok).1 hkm
          have stk := can_st W.ok st kc
          refine ⟨.ref d, rfl, d, rfl, .inr ⟨_, .inl (s7 _ _ d6)⟩, .ref h, rfl, .int k, rfl, h, n, here, k, rfl, s7 _ _ h6', st, h6, fun H8 pt s8 ht => ?_⟩
          have d8 := s8 _ _ (s7 _ _ d6)
          refine ⟨1, rfl, _, DGet.t d8 (ti_ky ht), ?_⟩
          obtain ⟨i, ei, hi⟩ := tell.or stk
          rw [ei]
          refine ⟨.ref d, rfl, .ref h, rfl, d, .int (e + 1 : Nat), rfl, by rw [← tell.at_ st g.left]; exact DGet.t d8 (ti_ky (s8 _ _ (s7 _ _ h6'))), _, 1, rfl, rfl, rfl, _, rfl, ?_⟩
          by_cases z : IsDist (arr A) (chg here k) U e
          · rw [decide_eq_true (congrArg V.int (by rw [(hi e).2 z]; omega))]
            exact iteT ⟨.int k, rfl, hN1 (isB_iff.2 z) H8 _ s8 rfl⟩
          · rw [decide_eq_false (fun y => z ((hi e).1 (by have := V.int.inj y; omega)))]
            exact iteF (hN2 (isB_not z) H8 s8)
        have ey := paired_fn pr
        subst ey
        cases hF : (doable n (arr A) here).filter (fun k => isB (IsDist (arr A) (chg here k) U e)) with
        | nil =>
          have := List.filter_eq_nil_iff.1 hF k0 ((mem_doable W.ok).2 c0)
          exact absurd (isB_iff.2 d0) this
        | cons k rest =>
          rw [hF] at hL
          have aF : Asc (k :: rest) := hF ▸ (asc_doable n (arr A) here).filter _
          have mF : ∀ j, j ∈ k :: rest ↔ j ∈ doable n (arr A) here ∧ IsDist (arr A) (chg here j) U e := fun j => by rw [← hF, List.mem_filter, isB_iff]
          obtain ⟨hk1, hk2⟩ := (mF k).1 List.mem_cons_self
          have kc := (mem_doable W.ok).1 hk1
          have gn := greedy_next g kc hk2 fun j cj dj => by
            have : j ∈ k :: rest := (mF j).2 ⟨(mem_doable W.ok).2 cj, dj⟩
            rcases List.mem_cons.1 this with rfl | hj
            · omega
            · exact Int.le_of_lt ((List.pairwise_cons.1 aF).1 j hj)
          refine ⟨L, _, 0, .int k, rfl, rfl, SqL.of hL, atI_nat (j := 0) rfl, ?_⟩
          have f7 := s7 _ _ f6
          have s57 := s56.trans s7
          refine ⟨.ref fo, rfl, .inl ⟨rfl, _, SqL.of f7⟩, .int k, rfl, fo, _, _, rfl, rfl, f7, small' (by rw [List.length_map]; omega), ?_⟩
          have h7 := s7 _ _ h6'
          have s8 : Same H (upd H7 fo (.lst (found.map V.int ++ [.int k]))) := fun bb o e => by
            rw [upd_ne (ne_of_none e nfoH)]
            exact s57 _ _ e
          have h8 : TI (upd H7 fo (.lst (found.map V.int ++ [.int k]))) h here := by
            show upd _ _ _ h = _
            rw [upd_ne (ne_of h7 f7 (fun z => nomatch z))]
            exact h7
          have d8 : upd H7 fo (.lst (found.map V.int ++ [.int k])) d = some (.dT kvs) := by
            rw [upd_ne (ne_of (s7 _ _ d6) f7 (fun z => nomatch z))]
            exact s7 _ _ d6
          have f8 : LI (upd H7 fo (.lst (found.map V.int ++ [.int k]))) fo (found ++ [k]) := by
            show upd _ _ _ fo = _
            rw [upd_same, List.map_append]
            rfl
          generalize upd H7 fo (.lst (found.map V.int ++ [.int k])) = H8 at s8 h8 d8 f8
          refine ⟨.ref h, rfl, .int k, rfl, h, n, here, k, rfl, h8, st, h6, fun H9 pn s9 hn => ?_⟩
          exact ⟨e, by omega, pn, chg here k, found ++ [k], _, _, rfl, s8.trans s9, s9 _ _ d8, s9 _ _ f8, hn, can_st W.ok st kc, gn⟩
end
end Pl


set_option Elab.async false
set_option linter.all false
set_option maxRecDepth 100000
set_option maxHeartbeats 4000000
namespace Pl
open PySem PySem.Spec PyProof.Rows L2 Pr
abbrev s_ways_count : Stmt := topS 26
theorem sc_ways_count : FnScope ["web", "one", "other", "told", "rows", "left", "more", "here", "lamp", "there"] ["web", "one", "other"] (defScope s_ways_count) := ⟨rfl, rfl, rfl, by decide +kernel, rfl, by decide +kernel, by decide +kernel⟩
/-- the ways told at i deeds from S, with d left to T -/
structure RowsC (n : Nat) (E : Int → Int → Bool) (S T : List Int) (i d : Nat) (kvs : Kvs) : Prop where
  get : ∀ X v, valV kvs (ky X) = some v ↔ v = .int (cnt n E S i X) ∧ IsDist E X T d ∧ ∃ w, w.length = i ∧ Leads E S w X
  keys : KeysOk n E S kvs
structure MoreC (n : Nat) (E : Int → Int → Bool) (S T : List Int) (c : List Int → Int) (d : Nat) (P : List (List Int × Int)) (kvs : Kvs) : Prop where
  get : ∀ Y v, valV kvs (ky Y) = some v ↔ v = .int (psum c P Y) ∧ IsDist E Y T d ∧ ∃ p ∈ P, chg p.1 p.2 = Y
  keys : KeysOk n E S kvs
section
variable {n : Nat} {E : Int → Int → Bool} {S T : List Int} {i d : Nat} {kvs mk : Kvs} {c : List Int → Int} {P : List (List Int × Int)}
theorem keys_nil : KeysOk n E S [] := ⟨[], rfl, List.nodup_nil, fun _ h => by cases h⟩
theorem keys_one {v : V} (hS : St n S) : KeysOk n E S [(ky S, v)] := ⟨[S], rfl, by simp, fun T hT => by
  have : T = S := by simpa using hT
  subst this
  exact ⟨hS, reach_self⟩⟩
theorem mem_keys {Ss : List (List Int)} (e : kvs.map (·.1) = Ss.map ky) (X : List Int) : X ∈ Ss ↔ ∃ v, valV kvs (ky X) = some v := by
  constructor
  · intro h
    cases hv : valV kvs (ky X) with
    | some v => exact ⟨v, rfl⟩
    | none =>
      have := valV_not hv
      rw [e] at this
      exact absurd (List.mem_map.2 ⟨X, h, rfl⟩) this
  · rintro ⟨v, h⟩
    have := valV_in h
    rw [e] at this
    obtain ⟨Y, hY, eY⟩ := List.mem_map.1 this
    exact ky_inj eY ▸ hY
theorem rowsC_start (hS : St n S) (hd : IsDist E S T d) : RowsC n E S T 0 d [(ky S, .int 1)] := by
  refine ⟨fun X v => ?_, keys_one hS⟩
  by_cases e : S = X
  · subst e
    rw [valV_pos (p := (ky S, V.int 1)) rfl]
    have : cnt n E S 0 S = 1 := by unfold cnt; rw [if_pos rfl]
    rw [this]
    constructor
    · intro h
      exact ⟨(Option.some.inj h).symm, hd, [], rfl, rfl⟩
    · rintro ⟨rfl, _⟩
      rfl
  · rw [valV_neg (p := (ky S, V.int 1)) (fun z => e (ky_inj z)), valV_nil]
    constructor
    · intro h; cases h
    · rintro ⟨_, _, w, hw, hl⟩
      have : w = [] := List.eq_nil_of_length_eq_zero hw
      subst this
      exact absurd hl e
theorem moreC_start : MoreC n E S T c d [] [] := by
  refine ⟨fun Y v => ?_, keys_nil⟩
  rw [valV_nil]
  constructor
  · intro h; cases h
  · rintro ⟨_, _, p, hp, _⟩
    cases hp
theorem MoreC.skip (B : MoreC n E S T c d P mk) {X : List Int} {k : Int} (h : ¬ IsDist E (chg X k) T d) : MoreC n E S T c d (P ++ [(X, k)]) mk := by
  refine ⟨fun Y v => ?_, B.keys⟩
  rw [B.get, psum_snoc]
  by_cases e : chg X k = Y
  · subst e
    exact ⟨fun z => absurd z.2.1 h, fun z => absurd z.2.1 h⟩
  · rw [if_neg e, Int.add_zero]
    refine and_congr_right fun _ => and_congr_right fun _ => ?_
    constructor
    · rintro ⟨p, hp, ep⟩
      exact ⟨p, List.mem_append_left _ hp, ep⟩
    · rintro ⟨p, hp, ep⟩
      rcases List.mem_append.1 hp with hp | hp
      · exact ⟨p, hp, ep⟩
      · have : p = (X, k) := by simpa using hp
        subst this
        exact absurd ep e
theorem MoreC.or (B : MoreC n E S T c d P mk) {Y : List Int} (h : IsDist E Y T d) : (valV mk (ky Y)).getD (.int 0) = .int (psum c P Y) := by
  cases hv : valV mk (ky Y) with
  | some v => exact ((B.get Y v).1 hv).1
  | none =>
    rw [psum_zero fun p hp e => ?_]
    · rfl
    · have := (B.get Y _).2 ⟨rfl, h, p, hp, e⟩
      rw [hv] at this
      cases this
theorem MoreC.put (B : MoreC n E S T c d P mk) {X : List Int} {k : Int} (h : IsDist E (chg X k) T d) (st : St n (chg X k)) (hr : Reach E S (chg X k)) : MoreC n E S T c d (P ++ [(X, k)]) (putK mk (ky (chg X k)) (.int (psum c P (chg X k) + c X))) := by
  refine ⟨fun Y v => ?_, B.keys.put st hr⟩
  rw [valV_put]
  by_cases e : chg X k = Y
  · subst e
    rw [if_pos rfl, psum_snoc, if_pos rfl]
    constructor
    · intro z
      exact ⟨(Option.some.inj z).symm, h, (X, k), by simp, rfl⟩
    · rintro ⟨rfl, _⟩
      rfl
  · rw [if_neg (fun z => e (ky_inj z).symm), psum_snoc, if_neg e, Int.add_zero, B.get]
    refine and_congr_right fun _ => and_congr_right fun _ => ?_
    constructor
    · rintro ⟨p, hp, ep⟩
      exact ⟨p, List.mem_append_left _ hp, ep⟩
    · rintro ⟨p, hp, ep⟩
      rcases List.mem_append.1 hp with hp | hp
      · exact ⟨p, hp, ep⟩
      · have : p = (X, k) := by simpa using hp
        subst this
        exact absurd ep e
theorem MoreC.done (W : WebOk n E) (hS : St n S) (hD : IsDist E S T (i + (d + 1))) {Ss : List (List Int)} (R : RowsC n E S T i (d + 1) kvs) (e : kvs.map (·.1) = Ss.map ky) (nd : Ss.Nodup) (B : MoreC n E S T (cnt n E S i) d (pairs n E Ss) mk) : RowsC n E S T (i + 1) d mk := by
  have hR : ∀ X, X ∈ Ss ↔ IsDist E X T (d + 1) ∧ ∃ w, w.length = i ∧ Leads E S w X := fun X => by
    rw [mem_keys e]
    constructor
    · rintro ⟨v, h⟩
      exact ((R.get X v).1 h).2
    · intro h
      exact ⟨_, (R.get X _).2 ⟨rfl, h⟩⟩
  refine ⟨fun Y v => ?_, B.keys⟩
  rw [B.get]
  constructor
  · rintro ⟨e1, h1, p, hp, ep⟩
    obtain ⟨h2, h3⟩ := (mem_pairs W).1 hp
    obtain ⟨_, w, lw, hw⟩ := (hR _).1 h2
    have hl : Leads E S (w ++ [p.2]) Y := leads_snoc.2 ⟨_, hw, h3, ep⟩
    refine ⟨?_, h1, w ++ [p.2], by simp [lw], hl⟩
    rw [e1, cnt_to W hS hD nd hR (leads_st W hS hl).asc h1]
  · rintro ⟨e1, h1, w, lw, hw⟩
    refine ⟨?_, h1, ?_⟩
    · rw [e1, cnt_to W hS hD nd hR (leads_st W hS hw).asc h1]
    · have ne : w ≠ [] := fun z => by rw [z] at lw; simp at lw
      rw [← List.dropLast_concat_getLast ne] at hw lw
      obtain ⟨X, h2, h3, h4⟩ := leads_snoc.1 hw
      have l2 : w.dropLast.length = i := by rw [List.length_append] at lw; simpa using lw
      refine ⟨(X, w.getLast ne), (mem_pairs W).2 ⟨(hR X).2 ⟨?_, _, l2, h2⟩, h3⟩, h4⟩
      obtain ⟨v', ev, hv⟩ := h1.ex
      refine ⟨⟨w.getLast ne :: v', by simp [ev], h3, by rw [h4]; exact hv⟩, fun x hx => ?_⟩
      have := hD.le (w.dropLast ++ x) (leads_app.2 ⟨_, h2, hx⟩)
      rw [List.length_append, l2] at this
      omega
end
section
variable {P : Program} {w : World} {K : PySem.W.Frag} {mg : Str → Option Value} {base : Heap}
def sp_ways_count : Sp := fun vs H Q _ => ∃ (a b c : Addr) (n : Nat) (A : List (Addr × Int × Int)) (S U : List Int), vs = [.ref a, .ref b, .ref c] ∧ WebAt H a n A ∧ Lex A ∧ TI H b S ∧ St n S ∧ TI H c U ∧ St n U ∧
  (∀ H', Same H H' → ¬ Reach (arr A) S U → Q (.int 0) H') ∧ ∀ H' m, Same H H' → IsDist (arr A) S U m → Q (.int (cnt n (arr A) S m U)) H'
theorem ok_ways_count (T : Bi mg) (D : Has K mg "ways_count" s_ways_count ["web", "one", "other"]) (C_need_two : Cal P w K mg base 5 "need_two" ["web", "one", "other"] sp_need_two) (C_comes_in : Cal P w K mg base 2 "comes_in" ["web", "one", "other"] sp_comes_in) (C_steps_to : Cal P w K mg base 4 "steps_to" ["web", "burning"] sp_steps_to) (C_doable : Cal P w K mg base 2 "doable" ["web", "burning"] sp_doable) (C_changed : Cal P w K mg base 1 "changed" ["burning", "lamp"] sp_changed) : Cal P w K mg base 6 "ways_count" ["web", "one", "other"] sp_ways_count := by
  refine Cal.of D sc_ways_count (fun vs H Q E h => ?_) (fun f cdv A0 outer s H vs Q E hr h => ?_)
  · obtain ⟨a, b, c, n, A, S, U, rfl, _⟩ := h
    rfl
  · obtain ⟨a, b, c, n, A, S, U, rfl, W, lx, hb, hS, hc, hU, q0, q⟩ := h
    have hu := hu_of hr
    have h6 := W.n6
    refine ⟨_, pss_cons (ps_expr (pe_cal C_need_two (hr.mono (by decide)) (by rfl) (pa_cons (pv 0) (pa_cons (pv 1) (pa_cons (pv 2) pa_nil)))))
      (pss_cons (ps_if (pt_not (pt_val (pe_cal C_comes_in (hr.mono (by decide)) (by rfl) (pa_cons (pv 0) (pa_cons (pv 1) (pa_cons (pv 2) pa_nil)))))) (pss_one (ps_ret pe_int)) pss_nil)
      (pss_cons (ps_par (i := 3) (j := 4) rfl sc_ways_count.nd rfl rfl (by decide) rfl rfl (pa_cons (pe_cal C_steps_to (hr.mono (by decide)) (by rfl) (pa_cons (pv 0) (pa_cons (pv 2) pa_nil))) (pa_cons (pe_disp1T hu (pv 1) pe_int) pa_nil)) (by rfl))
      (pss_cons (ps_for PassesOwn.never rfl (pi_range3 (by rfl) T.range (pa_cons (pe_dget hu (pv 3) (pv 1) (fun _ _ => rfl)) (pa_cons pe_int (pa_cons (pe_un un_neg pe_int) pa_nil)))) (pg_name (i := 5) sc_ways_count.nd rfl (.inl rfl))
      (pss_cons (ps_set (i := 6) sc_ways_count.nd rfl (.inl rfl) pe_dnewT)
      (pss_cons (ps_lock (ps_for PassesOwn.never rfl (pi_keysMT (pv 4)) (pg_name (i := 7) sc_ways_count.nd rfl (.inl rfl))
      (pss_one (ps_for PassesOwn.never rfl (pi_list (pe_cal C_doable (hr.mono (by decide)) (by rfl) (pa_cons (pv 0) (pa_cons (pv 7) pa_nil)))) (pg_name (i := 8) sc_ways_count.nd rfl (.inl rfl))
      (pss_cons (ps_set (i := 9) sc_ways_count.nd rfl (.inl rfl) (pe_cal C_changed (hr.mono (by decide)) (by rfl) (pa_cons (pv 7) (pa_cons (pv 8) pa_nil))))
      (pss_one (ps_if (pt_cmpR op_eq (pe_dget2 hu (pv 3) (pv 9) (pe_un un_neg pe_int) ⟨rfl, rfl, rfl, rfl⟩) (pe_op op_sub (pv 5) pe_int) (nomark _)) (pss_one (ps_dput hu (pv 6) (pv 9) (pe_op op_add (pe_dget2 hu (pv 6) (pv 9) pe_int ⟨rfl, rfl, rfl, rfl⟩) (pe_dget hu (pv 4) (pv 7) (fun _ _ => rfl))) rfl)) pss_nil)))))))
      (pss_one (ps_set (i := 4) sc_ways_count.nd rfl (.inl rfl) (pv 6))))))
      (pss_one (ps_ret (pe_dget hu (pv 4) (pv 2) (fun _ _ => rfl))))))), ?_⟩
    refine ⟨.ref a, rfl, .ref b, rfl, .ref c, rfl, a, b, c, n, A, S, U, rfl, W, lx, hb, hS, hc, hU, fun H1 s1 => ?_⟩
    refine ⟨.ref a, rfl, .ref b, rfl, .ref c, rfl, a, b, c, n, A, S, U, rfl, W.same s1, s1 _ _ hb, hS, s1 _ _ hc, hU, fun H2 k s2 hk => ?_⟩
    have s12 := s1.trans s2
    rw [comes_iff W.ok hS hU] at hk
    refine ⟨k, rfl, ?_⟩
    cases k with
    | false => exact iteT (q0 _ s12 fun z => Bool.false_ne_true (hk.2 z))
    | true =>
      refine iteF ?_
      have hR := hk.1 rfl
      obtain ⟨m0, dm0⟩ := dist_of_reach hR
      have lm0 := dist_lt h6 W.ok hS dm0
      refine ⟨.ref a, rfl, .ref c, rfl, a, c, n, A, U, rfl, W.same s12, s12 _ _ hc, hU, fun H3 d kvs s3 hd lk tell => ?_⟩
      have tell : Back2 n (arr A) U kvs := tell
      have s13 := s12.trans s3
      refine fun r nr => ⟨.ref b, rfl, b, ky S, rfl, ti_ky (same_new nr _ _ (s13 _ _ hb)), upd_same, ?_⟩
      rw [upd_upd]
      have sA := same_new (o := .dT [(ky S, .int 1)]) nr
      have s14 := s13.trans sA
      have nrH : H r = none := Same.free s13 nr
      have d4 := sA _ _ hd
      have r4 : upd H3 r (.dT [(ky S, .int 1)]) r = some (.dT [(ky S, .int 1)]) := upd_same
      generalize upd H3 r (.dT [(ky S, .int 1)]) = H4 at s14 d4 r4
      refine ⟨_, _, rfl, ?_⟩
      refine ⟨.ref d, rfl, .ref b, rfl, d, .int m0, rfl, by rw [← tell.at_ hS dm0]; exact DGet.t d4 (ti_ky (s14 _ _ hb)), 1, rfl, ?_⟩
      refine ⟨m0, 0, -1, m0, rfl, by have := RgC.neg (i := (m0 : Int)) (j := 0) (by omega) (by omega) (by omega) (by omega); simpa using this, ?_⟩
      refine for_it walk_rangeC (fun i σ H5 => ∃ (r : Addr) (rk : Kvs) (y5 y6 y7 y8 y9 : Option V), σ = [some (.ref a), some (.ref b), some (.ref c), some (.ref d), some (.ref r), y5, y6, y7, y8, y9] ∧ Same H H5 ∧ H5 d = some (.dT kvs) ∧ H r = none ∧ d ≠ r ∧ H5 r = some (.dT rk) ∧ RowsC n (arr A) S U i (m0 - i) rk)
        ⟨r, _, none, none, none, none, none, rfl, s14, d4, nrH, ne_of_none hd nr, r4, rowsC_start hS dm0⟩ (fun i σ H5 _ _ => trivial) (fun i x σ H5 H5' hi ⟨r, rk, y5, y6, y7, y8, y9, e, s5, d5, nr5, ndr, r5, R⟩ y => ?_) (fun σ H5 ⟨r, rk, y5, y6, y7, y8, y9, e, s5, d5, nr5, ndr, r5, R⟩ => ?_)
      · subst e
        obtain ⟨rfl, rfl⟩ := y
        clear s14 d4 r4 sA nr nrH
        obtain ⟨dd, edd⟩ : ∃ dd, m0 - i = dd + 1 := ⟨m0 - i - 1, by omega⟩
        have edd' : m0 - (i + 1) = dd := by omega
        rw [edd] at R
        have hD : IsDist (arr A) S U (i + (dd + 1)) := by
          have : i + (dd + 1) = m0 := by omega
          rw [this]
          exact dm0
        obtain ⟨Ss, eS, ndS, _⟩ := R.keys
        have lS : Ss.length = rk.length := by rw [← List.length_map (f := ky), ← eS, List.length_map]
        -- more = {}
        refine fun M nM => ?_
        have sM := same_new (o := .dT []) nM
        have nMd : d ≠ M := ne_of_none d5 nM
        have nMr : r ≠ M := ne_of_none r5 nM
        have nMH : H M = none := Same.free s5 nM
        -- the lock
        refine ⟨r, .dT rk, sM _ _ r5, trivial, fun od => ?_⟩
        refine ⟨.ref r, rfl, r, od, rk, rfl, upd_same, ?_⟩
        let Iv : List (List Int × Int) → Hp → Prop := fun P H6 => ∃ mk : Kvs, Same H H6 ∧ H6 d = some (.dT kvs) ∧ H6 r = some (.frz od (.dT rk)) ∧ H6 M = some (.dT mk) ∧ MoreC n (arr A) S U (cnt n (arr A) S i) dd P mk
        refine for_it walk_keysT (fun j σ H6 => ∃ (y7 y8 y9 : Option V), σ = [some (.ref a), some (.ref b), some (.ref c), some (.ref d), some (.ref r), some (.int (m0 + (i : Nat) * -1)), some (.ref M), y7, y8, y9] ∧ Iv (pairs n (arr A) (Ss.take j)) H6)
          ⟨y7, y8, y9, rfl, [], ?_, ?_, upd_same, ?_, moreC_start⟩ (fun j σ H6 _ ⟨_, _, _, _, _, _, _, h, _⟩ => h) (fun j x σ H6 H6' hj ⟨z7, z8, z9, e, mk, s6, d6, r6, m6, B⟩ y => ?_) (fun σ H6 ⟨z7, z8, z9, e, mk, s6, d6, r6, m6, B⟩ => ?_)
        · exact fun bb o e => by
            rw [upd_ne (ne_of_none e nr5)]
            exact sM _ _ (s5 _ _ e)
        · rw [upd_ne ndr]
          exact sM _ _ d5
        · rw [upd_ne nMr.symm]
          exact upd_same
        · subst e
          obtain ⟨rfl, kk, v, qa, hk, rfl, hq⟩ := y
          have hkS : (Ss.map ky)[j]? = some kk := by rw [← eS, List.getElem?_map, hk]; rfl
          rw [List.getElem?_map] at hkS
          obtain ⟨X, hX, rfl⟩ := Option.map_eq_some_iff.1 hkS
          have et : Ss.take (j + 1) = Ss.take j ++ [X] := by rw [List.take_add_one, hX]; rfl
          have hq : TI H6' qa X := by show _ = _; rw [hq, ky_kV]
          obtain ⟨v', hv'⟩ := (mem_keys eS X).1 (List.mem_of_getElem? hX)
          obtain ⟨rfl, dX, wX, lX, hX2⟩ := (R.get X v').1 hv'
          have stX := leads_st W.ok hS hX2
          refine ⟨.ref a, rfl, .ref qa, rfl, a, qa, n, A, X, rfl, W.same s6, hq, stX, fun H7 pl s7 hl => ?_⟩
          refine ⟨pl, rfl, ⟨_, SqL.of hl⟩, ?_⟩
          refine for_it (walk_list (K := K) (a := pl) (xs := (doable n (arr A) X).map V.int)) (fun l σ H8 => ∃ (y8 y9 : Option V), σ = [some (.ref a), some (.ref b), some (.ref c), some (.ref d), some (.ref r), some (.int (m0 + (i : Nat) * -1)), some (.ref M), some (.ref qa), y8, y9] ∧ LI H8 pl (doable n (arr A) X) ∧ TI H8 qa X ∧ Iv (pairs n (arr A) (Ss.take j) ++ ((doable n (arr A) X).take l).map fun k => (X, k)) H8)
            ⟨z8, z9, rfl, hl, s7 _ _ hq, mk, s6.trans s7, s7 _ _ d6, s7 _ _ r6, s7 _ _ m6, by simpa using B⟩ (fun l σ H8 _ ⟨_, _, _, h, _⟩ => SqL.of h) (fun l x σ H8 H9 hl2 ⟨w8, w9, e, hl8, hq8, mk8, s8, d8, r8, m8, B8⟩ y => ?_) (fun σ H8 ⟨w8, w9, e, hl8, hq8, mk8, s8, d8, r8, m8, B8⟩ => ?_)
          · subst e
            obtain ⟨rfl, k, hk, rfl⟩ := yat_of y
            have km := List.mem_of_getElem? hk
            have hc := (mem_doable W.ok).1 km
            have stk := can_st W.ok stX hc
            have etj : ((doable n (arr A) X).take (l + 1)).map (fun k => (X, k)) = ((doable n (arr A) X).take l).map (fun k => (X, k)) ++ [(X, k)] := by rw [List.take_add_one, hk, List.map_append]; rfl
            refine ⟨.ref qa, rfl, .int k, rfl, qa, n, X, k, rfl, hq8, stX, h6, fun H10 pt s10 ht10 => ?_⟩
            have d10 := s10 _ _ d8
            have r10 := s10 _ _ r8
            have m10 := s10 _ _ m8
            have hl10 := s10 _ _ hl8
            have hq10 := s10 _ _ hq8
            have s11 := s8.trans s10
            refine ⟨.ref d, rfl, d, rfl, .inr ⟨_, .inl d10⟩, .ref pt, rfl, 1, rfl, _, DGet.t d10 (ti_ky ht10), ?_⟩
            obtain ⟨i0, ei, hi0⟩ := tell.or stk
            rw [ei]
            refine ⟨_, rfl, _, 1, rfl, rfl, rfl, _, rfl, ?_⟩
            by_cases z : IsDist (arr A) (chg X k) U dd
            · rw [decide_eq_true (congrArg V.int (by rw [(hi0 dd).2 z]; omega))]
              refine iteT ?_
              have lk8 := B8.keys.few h6
              have hr0 : Reach (arr A) S (chg X k) := ⟨wX ++ [k], leads_snoc.2 ⟨X, hX2, hc, rfl⟩⟩
              refine ⟨.ref M, rfl, M, rfl, .inr ⟨_, .inl m10⟩, .ref pt, rfl, _, DGet.t m10 (ti_ky ht10), ?_⟩
              rw [B8.or z]
              refine ⟨.ref r, rfl, .ref qa, rfl, r, _, rfl, .inr ⟨rk, ky X, qa, .inr ⟨od, r10⟩, rfl, ti_ky hq10, hv'.symm⟩, _, _, rfl, rfl, .ref M, rfl, .ref pt, rfl, M, _, rfl, DPut.t m10 (ti_ky ht10) (small' (by omega)), ?_⟩
              refine ⟨_, _, rfl, ?_, ?_, putK mk8 (ky (chg X k)) (.int (psum (cnt n (arr A) S i) (pairs n (arr A) (Ss.take j) ++ ((doable n (arr A) X).take l).map fun k => (X, k)) (chg X k) + cnt n (arr A) S i X)), fun bb o e => ?_, ?_, ?_, upd_same, ?_⟩
              · show upd _ _ _ pl = _
                rw [upd_ne (ne_of hl10 m10 (fun z => nomatch z))]
                exact hl10
              · show upd _ _ _ qa = _
                rw [upd_ne (ne_of hq10 m10 (fun z => nomatch z))]
                exact hq10
              · rw [upd_ne (ne_of_none e nMH)]
                exact s11 _ _ e
              · rw [upd_ne nMd]
                exact d10
              · rw [upd_ne nMr]
                exact r10
              · rw [etj, ← List.append_assoc]
                exact B8.put z stk hr0
            · rw [decide_eq_false (fun y => z ((hi0 dd).1 (by have := V.int.inj y; omega)))]
              refine iteF ⟨_, _, rfl, hl10, hq10, mk8, s11, d10, r10, m10, ?_⟩
              rw [etj, ← List.append_assoc]
              exact B8.skip z
          · subst e
            refine ⟨_, _, _, rfl, mk8, s8, d8, r8, m8, ?_⟩
            rw [et, pairs_next]
            rwa [List.length_map, List.take_length] at B8
        · subst e
          rw [← lS, List.take_length] at B
          refine ⟨r6, ?_⟩
          refine ⟨.ref M, rfl, M, mk, _, _, _, _, _, rfl, fun bb o e => ?_, ?_, nMH, nMd, ?_, ?_⟩
          · rw [upd_ne (ne_of_none e nr5)]
            exact s6 _ _ e
          · rw [upd_ne ndr]
            exact d6
          · rw [upd_ne nMr.symm]
            exact m6
          · rw [edd']
            exact MoreC.done W.ok hS hD R eS ndS B
      · subst e
        rw [Nat.sub_self] at R
        obtain ⟨w0, lw0, hw0⟩ := dm0.ex
        refine ⟨.ref r, rfl, .ref c, rfl, r, _, rfl, ?_, q _ m0 s5 dm0⟩
        rw [← (R.get U _).2 ⟨rfl, dist_self _ U, w0, lw0, hw0⟩]
        exact DGet.t r5 (ti_ky (s5 _ _ hc))
end
end Pl


set_option Elab.async false
set_option linter.all false
set_option maxRecDepth 100000
set_option maxHeartbeats 4000000
namespace Pl
open PySem PySem.Spec PyProof.Rows L2 Pr
abbrev s_law_taken : Stmt := topS 28
theorem sc_law_taken : FnScope ["_law_row", "_law_many", "_law_found", "_law_cell"] ["_law_row", "_law_many"] (defScope s_law_taken) := ⟨rfl, rfl, rfl, by decide +kernel, rfl, by decide +kernel, by decide +kernel⟩
abbrev s_law_pick : Stmt := topS 29
theorem sc_law_pick : FnScope ["_law_row", "_law_things"] ["_law_row", "_law_things"] (defScope s_law_pick) := ⟨rfl, rfl, rfl, by decide +kernel, rfl, by decide +kernel, by decide +kernel⟩
abbrev s_law_web : Stmt := topS 30
theorem sc_law_web : FnScope ["_law_row", "_law_most", "_law_many", "_law_way", "_law_thin", "_law_arrows", "_law_k", "_law_j"] ["_law_row", "_law_most"] (defScope s_law_web) := ⟨rfl, rfl, rfl, by decide +kernel, rfl, by decide +kernel, by decide +kernel⟩
abbrev s_law_burning : Stmt := topS 31
theorem sc_law_burning : FnScope ["_law_row", "_law_many", "_law_thin", "_law_k"] ["_law_row", "_law_many"] (defScope s_law_burning) := ⟨rfl, rfl, rfl, by decide +kernel, rfl, by decide +kernel, by decide +kernel⟩
section
variable {P : Program} {w : World} {K : PySem.W.Frag} {mg : Str → Option Value} {base : Heap}
/-- the script's row stands at r, the script at s -/
structure RowAt (K : PySem.W.Frag) (H : Hp) (r s : Addr) (ns : List Int) : Prop where
  at_ : ∃ i z q : Int, 0 ≤ i ∧ H r = some (.lst [.ref s, .int i, .int z, .int q])
  sc : SqL K H s (ns.map V.int)
  few : ns.length ≤ 63
theorem seq_but {H H' : Hp} {r s : Addr} {ns : List Int} {x : Addr} {t : List V} (h : SqL K H s (ns.map V.int)) (hr : H r = some (.lst (.ref x :: t))) (b : SameBut r H H') : SqL K H' s (ns.map V.int) := by
  rcases h with (h | ⟨o, h⟩) | h
  · refine .inl (.inl (b _ _ h fun e => ?_))
    subst e
    rw [hr] at h
    cases ns with
    | nil => cases h
    | cons n r => cases h
  · refine .inl (.inr ⟨o, b _ _ h fun e => ?_⟩)
    subst e
    rw [hr] at h
    cases h
  · exact .inr h
theorem RowAt.but {H H' : Hp} {r s : Addr} {ns : List Int} (h : RowAt K H r s ns) (b : SameBut r H H') (e : ∃ i z q : Int, 0 ≤ i ∧ H' r = some (.lst [.ref s, .int i, .int z, .int q])) : RowAt K H' r s ns :=
  ⟨e, let ⟨_, _, _, _, h1⟩ := h.at_; seq_but h.sc h1 b, h.few⟩
theorem RowAt.same {H H' : Hp} {r s : Addr} {ns : List Int} (h : RowAt K H r s ns) (b : Same H H') : RowAt K H' r s ns :=
  h.but (same_but b r) (let ⟨i, z, q, h0, h1⟩ := h.at_; ⟨i, z, q, h0, b _ _ h1⟩)
theorem RowAt.upd {H : Hp} {r s : Addr} {ns : List Int} (h : RowAt K H r s ns) {i z q : Int} (hi : 0 ≤ i) : RowAt K (upd H r (.lst [.ref s, .int i, .int z, .int q])) r s ns :=
  h.but SameBut.upd ⟨i, z, q, hi, upd_same⟩
def sp_law_taken (K : PySem.W.Frag) : Sp := fun vs H Q _ => ∃ (r s : Addr) (ns : List Int) (m : Int), vs = [.ref r, .int m] ∧ RowAt K H r s ns ∧ 0 < m ∧ m < 1000 ∧
  ∀ H' v, SameBut r H H' → RowAt K H' r s ns → 0 ≤ v → v < m → Q (.int v) H'
theorem ok_law_taken (T : Bi mg) (D : Has K mg "_law_taken" s_law_taken ["_law_row", "_law_many"]) : Cal P w K mg base 1 "_law_taken" ["_law_row", "_law_many"] (sp_law_taken K) := by
  refine Cal.of D sc_law_taken (fun vs H Q E h => ?_) (fun f cdv A0 outer s H vs Q E hr h => ?_)
  · obtain ⟨a, b, n, A, rfl, _⟩ := h
    rfl
  · obtain ⟨r, sc, ns, m, rfl, R, m0, m1, q⟩ := h
    obtain ⟨i, z, g, hi, h1⟩ := R.at_
    refine ⟨_, pss_cons (ps_if (pt_cmpR op_gt (pe_ix ix_list (pv 0) pe_int (fun _ _ => rfl)) pe_int (nomark _)) (pss_cons (ps_set (i := 2) sc_law_taken.nd rfl (.inl rfl) (pe_op op_mod (pe_callTy call_int1 (by rfl) T.int boot_int (pa_cons (pe_ix ix_list (pv 0) pe_int (fun _ _ => rfl)) pa_nil)) (pv 1)))
      (pss_cons (ps_asg (pe_op op_fdiv (pe_ix ix_list (pv 0) pe_int (fun _ _ => rfl)) (pv 1)) (pg_sub (pv 0) pe_int set_list))
      (pss_one (ps_ret (pv 2))))) pss_nil)
      (pss_cons (ps_asg (pe_op op_add (pe_ix ix_list (pv 0) pe_int (fun _ _ => rfl)) pe_int) (pg_sub (pv 0) pe_int set_list))
      (pss_cons (ps_if (pt_cmpR op_gt (pe_ix ix_list (pv 0) pe_int (fun _ _ => rfl)) (pe_callB call_len_seq (by rfl) T.len PySem.boot_len (pa_cons (pe_ix ix_list (pv 0) pe_int (fun _ _ => rfl)) pa_nil)) (nomark _)) (pss_cons (ps_asg (pe_op op_mod (pe_callTy call_int1 (by rfl) T.int boot_int (pa_cons (pe_op op_add (pe_op op_mul (pe_ix ix_list (pv 0) pe_int (fun _ _ => rfl)) pe_int) pe_int) pa_nil)) pe_int) (pg_sub (pv 0) pe_int set_list))
      (pss_one (ps_ret (pe_op op_mod (pe_callTy call_int1 (by rfl) T.int boot_int (pa_cons (pe_op op_fdiv (pe_ix ix_list (pv 0) pe_int (fun _ _ => rfl)) pe_int) pa_nil)) (pv 1))))) pss_nil)
      (pss_cons (ps_set (i := 3) sc_law_taken.nd rfl (.inl rfl) (pe_ix ix_list (pe_ix ix_list (pv 0) pe_int (fun _ _ => rfl)) (pe_op op_sub (pe_ix ix_list (pv 0) pe_int (fun _ _ => rfl)) pe_int) (fun _ _ => rfl)))
      (pss_cons (ps_asg (pe_op op_mod (pe_callTy call_int1 (by rfl) T.int boot_int (pa_cons (pe_op op_add (pe_op op_add (pe_op op_mul (pe_ix ix_list (pv 0) pe_int (fun _ _ => rfl)) pe_int) (pv 3)) pe_int) pa_nil)) pe_int) (pg_sub (pv 0) pe_int set_list))
      (pss_cons (ps_if (pt_cmpR op_ge (pv 3) (pe_op op_pow pe_int pe_int) (nomark _)) (pss_one (ps_asg (pe_op op_fdiv (pv 3) (pv 1)) (pg_sub (pv 0) pe_int set_list))) pss_nil)
      (pss_one (ps_ret (pe_op op_mod (pe_callTy call_int1 (by rfl) T.int boot_int (pa_cons (pv 3) pa_nil)) (pv 1))))))))), ?_⟩
    have md : ∀ x : Int, 0 ≤ x % m ∧ x % m < m := fun x => ⟨Int.emod_nonneg _ (by omega), Int.emod_lt_of_pos _ m0⟩
    refine ⟨.ref r, rfl, r, _, 3, .int g, rfl, rfl, SqL.of h1, atI_nat (j := 3) rfl, g, 0, rfl, rfl, _, rfl, ?_⟩
    by_cases e1 : g > 0
    · rw [decide_eq_true e1]
      refine iteT ?_
      refine ⟨.ref r, rfl, r, _, 3, .int g, rfl, rfl, SqL.of h1, atI_nat (j := 3) rfl, .inl ⟨g, rfl, .int m, rfl, g, m, rfl, rfl, m0, ?_⟩⟩
      refine ⟨.ref r, rfl, r, _, 3, .int g, rfl, rfl, SqL.of h1, atI_nat (j := 3) rfl, .int m, rfl, g, m, rfl, rfl, ⟨m0, by omega⟩, .ref r, rfl, r, _, 3, 3, rfl, rfl, h1, rfl, ?_⟩
      exact ⟨.int (g % m), rfl, q _ _ SameBut.upd (R.upd hi) (md _).1 (md _).2⟩
    · rw [decide_eq_false e1]
      refine iteF ?_
      refine ⟨.ref r, rfl, r, _, 1, .int i, rfl, rfl, SqL.of h1, atI_nat (j := 1) rfl, i, 1, rfl, rfl, .ref r, rfl, r, _, 1, 1, rfl, rfl, h1, rfl, ?_⟩
      have s1 : SameBut r H (upd H r (.lst [.ref sc, .int (i + 1), .int z, .int g])) := SameBut.upd
      have R1 : RowAt K (upd H r (.lst [.ref sc, .int (i + 1), .int z, .int g])) r sc ns := R.upd (by omega)
      have h2 : upd H r (.lst [.ref sc, .int (i + 1), .int z, .int g]) r = some (.lst [.ref sc, .int (i + 1), .int z, .int g]) := upd_same
      rw [show List.set [V.ref sc, .int i, .int z, .int g] 1 (.int (i + 1)) = [.ref sc, .int (i + 1), .int z, .int g] from rfl]
      generalize upd H r (.lst [.ref sc, .int (i + 1), .int z, .int g]) = H2 at s1 R1 h2
      refine ⟨.ref r, rfl, r, _, 1, .int (i + 1), rfl, rfl, SqL.of h2, atI_nat (j := 1) rfl, .ref r, rfl, r, _, 0, .ref sc, rfl, rfl, SqL.of h2, atI_nat (j := 0) rfl, sc, _, rfl, .inl R1.sc, i + 1, _, rfl, rfl, _, rfl, ?_⟩
      rw [List.length_map]
      by_cases e2 : (ns.length : Int) < i + 1
      · rw [decide_eq_true e2]
        refine iteT ?_
        refine ⟨.ref r, rfl, r, _, 2, .int z, rfl, rfl, SqL.of h2, atI_nat (j := 2) rfl, z, 48271, rfl, rfl, .inr (by decide), _, 11, rfl, rfl, .inl ⟨_, rfl, _, 2147483647, rfl, rfl, (by decide : (0 : Int) < 2147483647), .ref r, rfl, r, _, 2, 2, rfl, rfl, h2, rfl, ?_⟩⟩
        refine ⟨.ref r, rfl, r, _, 2, _, rfl, rfl, SqL.of upd_same, atI_nat (j := 2) rfl, _, 7, rfl, rfl, ⟨by decide, by decide⟩, .inl ⟨_, rfl, .int m, rfl, _, m, rfl, rfl, m0, ?_⟩⟩
        exact q _ _ (s1.trans SameBut.upd) (R1.upd (by omega)) (md _).1 (md _).2
      · rw [decide_eq_false e2]
        refine iteF ?_
        obtain ⟨j, rfl⟩ := Int.eq_ofNat_of_zero_le hi
        have hj : j < ns.length := by omega
        refine ⟨.ref r, rfl, r, _, 0, .ref sc, rfl, rfl, SqL.of h2, atI_nat (j := 0) rfl, .ref r, rfl, r, _, 1, _, rfl, rfl, SqL.of h2, atI_nat (j := 1) rfl, _, 1, rfl, rfl, sc, _, (j : Int), .int ns[j], rfl, by show V.int _ = V.int _; congr 1; omega, R1.sc, atI_nat (by rw [List.getElem?_map, List.getElem?_eq_getElem hj]; rfl), ?_⟩
        generalize ns[j] = x
        refine ⟨.ref r, rfl, r, _, 2, .int z, rfl, rfl, SqL.of h2, atI_nat (j := 2) rfl, z, 48271, rfl, rfl, .inr (by decide), .int x, rfl, _, x, rfl, rfl, _, 11, rfl, rfl, .inl ⟨_, rfl, _, 2147483647, rfl, rfl, (by decide : (0 : Int) < 2147483647), .ref r, rfl, r, _, 2, 2, rfl, rfl, h2, rfl, ?_⟩⟩
        have s3 : SameBut r H (upd H2 r (.lst [.ref sc, .int (j + 1), .int ((z * 48271 + x + 11) % 2147483647), .int g])) := s1.trans SameBut.upd
        have R3 : RowAt K (upd H2 r (.lst [.ref sc, .int (j + 1), .int ((z * 48271 + x + 11) % 2147483647), .int g])) r sc ns := R1.upd (by omega)
        have h3 : upd H2 r (.lst [.ref sc, .int (j + 1), .int ((z * 48271 + x + 11) % 2147483647), .int g]) r = some (.lst [.ref sc, .int (j + 1), .int ((z * 48271 + x + 11) % 2147483647), .int g]) := upd_same
        rw [show List.set [V.ref sc, .int (j + 1), .int z, .int g] 2 (.int ((z * 48271 + x + 11) % 2147483647)) = [.ref sc, .int (j + 1), .int ((z * 48271 + x + 11) % 2147483647), .int g] from rfl]
        generalize upd H2 r (.lst [.ref sc, .int (j + 1), .int ((z * 48271 + x + 11) % 2147483647), .int g]) = H3 at s3 R3 h3
        refine ⟨.int x, rfl, 10, 18, rfl, rfl, ⟨by decide, by decide, by decide⟩, x, _, rfl, rfl, _, rfl, ?_⟩
        by_cases e3 : (10 : Int) ^ (18 : Int).toNat ≤ x
        · rw [decide_eq_true e3]
          refine iteT ?_
          refine ⟨.int x, rfl, .int m, rfl, x, m, rfl, rfl, ⟨m0, by omega⟩, .ref r, rfl, r, _, 3, 3, rfl, rfl, h3, rfl, ?_⟩
          exact ⟨.int x, rfl, .inl ⟨x, rfl, .int m, rfl, x, m, rfl, rfl, m0, q _ _ (s3.trans SameBut.upd) (R3.upd (by omega)) (md _).1 (md _).2⟩⟩
        · rw [decide_eq_false e3]
          refine iteF ?_
          exact ⟨.int x, rfl, .inl ⟨x, rfl, .int m, rfl, x, m, rfl, rfl, m0, q _ _ s3 R3 (md _).1 (md _).2⟩⟩
end
end Pl


set_option Elab.async false
set_option linter.all false
set_option maxRecDepth 100000
set_option maxHeartbeats 4000000
namespace Pl
open PySem PySem.Spec PyProof.Rows L2 Pr
theorem walk_lamps {n : Nat} : Walk (Itr 0 n) n (fun _ => True) (YAt ((lamps n).map V.int)) :=
  walk_range.mono (fun _ h => h) fun i H x H' hi _ ⟨e, h⟩ => ⟨e, by
    subst h
    rw [List.getElem?_map]
    unfold lamps
    rw [List.getElem?_map, List.getElem?_range hi]
    show some (V.int _) = some (V.int _)
    rw [Int.zero_add]
    rfl⟩
/-- arrows of a web of n lamps, no more than m, in a list at ar -/
structure ArwL (n : Nat) (H : Hp) (ar : Addr) (bs : List (Addr × Int × Int)) (m : Nat) : Prop where
  at_ : H ar = some (.lst (bs.map fun b => V.ref b.1))
  each : ∀ b ∈ bs, H b.1 = some (.tup [.int b.2.1, .int b.2.2]) ∧ (0 ≤ b.2.1 ∧ b.2.1 < n) ∧ (0 ≤ b.2.2 ∧ b.2.2 < n) ∧ b.2.1 ≠ b.2.2
  few : bs.length ≤ m
section
variable {n m m' : Nat} {H H' : Hp} {ar r : Addr} {bs : List (Addr × Int × Int)}
theorem ArwL.more (h : ArwL n H ar bs m) (e : m ≤ m') : ArwL n H ar bs m' := ⟨h.at_, h.each, Nat.le_trans h.few e⟩
theorem ArwL.but {xs : List V} (h : ArwL n H ar bs m) (hr : H r = some (.lst xs)) (ne : ar ≠ r) (b : SameBut r H H') : ArwL n H' ar bs m :=
  ⟨b _ _ h.at_ ne, fun p hp => ⟨b _ _ (h.each p hp).1 (ne_of (h.each p hp).1 hr fun z => nomatch z), (h.each p hp).2⟩, h.few⟩
theorem ArwL.put {z : Addr} {x y : Int} (h : ArwL n H ar bs m) (nz : H z = none) (hx : 0 ≤ x ∧ x < n) (hy : 0 ≤ y ∧ y < n) (ne : x ≠ y) : ArwL n (upd (upd H z (.tup [.int x, .int y])) ar (.lst (bs.map (fun b => V.ref b.1) ++ [.ref z]))) ar (bs ++ [(z, x, y)]) (m + 1) := by
  have nar : z ≠ ar := (ne_of_none h.at_ nz).symm
  refine ⟨by rw [upd_same, List.map_append]; rfl, fun b hb => ?_, by rw [List.length_append]; have := h.few; simp; omega⟩
  rcases List.mem_append.1 hb with hb | hb
  · obtain ⟨h1, h2⟩ := h.each b hb
    refine ⟨?_, h2⟩
    rw [upd_ne (ne_of h1 h.at_ fun z => nomatch z), upd_ne (ne_of_none h1 nz)]
    exact h1
  · have : b = (z, x, y) := by simpa using hb
    subst this
    refine ⟨?_, hx, hy, ne⟩
    show upd _ _ _ z = _
    rw [upd_ne nar, upd_same]
theorem but_free {o : HO} (b : SameBut r H H') (hr : H' r = some o) (h : H' ar = none) : H ar = none := by
  cases e : H ar with
  | none => rfl
  | some o' =>
    have := b _ _ e (ne_of_none hr h).symm
    rw [h] at this
    cases this
theorem but_put {o : HO} (b : SameBut r H H') (h : H ar = none) : SameBut r H (upd H' ar o) := fun c x e ne => by
  rw [upd_ne (ne_of_none e h)]
  exact b _ _ e ne
end
section
variable {P : Program} {w : World} {K : PySem.W.Frag} {mg : Str → Option Value} {base : Heap}
def sp_law_pick (K : PySem.W.Frag) : Sp := fun vs H Q _ => ∃ (r s : Addr) (ns : List Int) (t : Addr) (xs : List V), vs = [.ref r, .ref t] ∧ RowAt K H r s ns ∧ H t = some (.lst xs) ∧ t ≠ r ∧ xs ≠ [] ∧ xs.length < 1000 ∧
  ∀ H' x, SameBut r H H' → RowAt K H' r s ns → x ∈ xs → Q x H'
theorem ok_law_pick (T : Bi mg) (D : Has K mg "_law_pick" s_law_pick ["_law_row", "_law_things"]) (C_law_taken : Cal P w K mg base 1 "_law_taken" ["_law_row", "_law_many"] (sp_law_taken K)) : Cal P w K mg base 2 "_law_pick" ["_law_row", "_law_things"] (sp_law_pick K) := by
  refine Cal.of D sc_law_pick (fun vs H Q E h => ?_) (fun f cdv A0 outer s H vs Q E hr h => ?_)
  · obtain ⟨a, b, n, A, _, rfl, _⟩ := h
    rfl
  · obtain ⟨r, sc, ns, t, xs, rfl, R, ht, ntr, hne, few, q⟩ := h
    refine ⟨_, pss_one (ps_ret (pe_ix ix_list (pv 1) (pe_cal C_law_taken (hr.mono (by decide)) (by rfl) (pa_cons (pv 0) (pa_cons (pe_callB call_len_seq (by rfl) T.len PySem.boot_len (pa_cons (pv 1) pa_nil)) pa_nil))) (fun _ _ => rfl))), ?_⟩
    have pos : 0 < xs.length := List.length_pos_iff.2 hne
    refine ⟨.ref t, rfl, .ref r, rfl, .ref t, rfl, t, _, rfl, .inl (SqL.of ht), r, sc, ns, xs.length, rfl, R, by omega, by omega, fun H1 v b1 R1 v0 v1 => ?_⟩
    obtain ⟨j, rfl⟩ := Int.eq_ofNat_of_zero_le v0
    have hj : j < xs.length := by omega
    exact ⟨t, xs, j, xs[j], rfl, rfl, SqL.of (b1 _ _ ht ntr), atI_nat (List.getElem?_eq_getElem hj), q _ _ b1 R1 (List.getElem_mem hj)⟩
def sp_law_burning (K : PySem.W.Frag) : Sp := fun vs H Q _ => ∃ (r s : Addr) (ns : List Int) (n : Nat), vs = [.ref r, .int n] ∧ RowAt K H r s ns ∧ n ≤ 6 ∧
  ∀ H' p S, SameBut r H H' → RowAt K H' r s ns → TI H' p S → St n S → Q (.ref p) H'
theorem ok_law_burning (T : Bi mg) (D : Has K mg "_law_burning" s_law_burning ["_law_row", "_law_many"]) (C_law_taken : Cal P w K mg base 1 "_law_taken" ["_law_row", "_law_many"] (sp_law_taken K)) (C_law_pick : Cal P w K mg base 2 "_law_pick" ["_law_row", "_law_things"] (sp_law_pick K)) : Cal P w K mg base 3 "_law_burning" ["_law_row", "_law_many"] (sp_law_burning K) := by
  refine Cal.of D sc_law_burning (fun vs H Q E h => ?_) (fun f cdv A0 outer s H vs Q E hr h => ?_)
  · obtain ⟨a, b, n, A, rfl, _⟩ := h
    rfl
  · obtain ⟨r, sc, ns, n, rfl, R, h6, q⟩ := h
    refine ⟨_, pss_cons (ps_set (i := 2) sc_law_burning.nd rfl (.inr rfl) (pe_cal C_law_pick (hr.mono (by decide)) (by rfl) (pa_cons (pv 0) (pa_cons (pe_lst (pa_cons pe_int (pa_cons pe_int (pa_cons pe_int pa_nil)))) pa_nil))))
      (pss_one (ps_ret (pe_callTy call_tuple_of (by rfl) T.tuple boot_tuple (pa_cons 
        (pe_lc (own := [("_law_k", 3)]) (g := gName 3) rfl sc_law_burning.nd (pi_range1 (by rfl) T.range (pa_cons (pv 1) pa_nil)) (blkOk_by (own := [("_law_k", 3)]) (N := ["_law_row", "_law_many", "_law_thin", "_law_k"]) (sc := defScope s_law_burning) (by decide +kernel))
          (fun _ _ _ _ _ => (pg_name (i := 3) sc_law_burning.nd rfl (.inl rfl))) (fun _ _ _ _ _ => (pts_one (pt_cmpR op_eq (pe_cal C_law_taken (hr.mono (by decide)) (by rfl) (pa_cons (pv 0) (pa_cons (pv 2) pa_nil))) pe_int (nomark _)))) (fun _ _ _ _ _ => (pv 3))) pa_nil)))), ?_⟩
    refine ⟨.ref r, rfl, by show 3 ≤ sizeLine; decide, fun t nt => ?_⟩
    obtain ⟨_, _, _, _, hr0⟩ := R.at_
    refine ⟨r, sc, ns, t, _, rfl, R.same (same_new nt), upd_same, (ne_of_none hr0 nt).symm, by simp, by simp, fun H1 x b1 R1 hx => ?_⟩
    have b01 := (same_but (same_new nt) r).trans b1
    obtain ⟨th, rfl, t0, t1⟩ : ∃ th : Int, x = .int th ∧ 0 < th ∧ th < 1000 := by
      simp at hx
      rcases hx with rfl | rfl | rfl <;> exact ⟨_, rfl, by decide, by decide⟩
    refine ⟨.int n, rfl, n, rfl, by omega, by omega, fun L nL => ?_⟩
    have fL : H L = none := by
      obtain ⟨_, _, _, _, h1⟩ := R1.at_
      exact but_free b01 h1 nL
    refine lc_it walk_lamps (fun i H2 => SameBut r H H2 ∧ RowAt K H2 r sc ns ∧ ∃ ms : List Int, LI H2 L ms ∧ ms.Sublist ((lamps n).take i)) ⟨?_, ?_, [], upd_same, by simp⟩ (fun i H2 _ _ => trivial) (fun i x H2 H3 hi ⟨b2, R2, ms, hL, sb⟩ y => ?_) (fun H2 ⟨b2, R2, ms, hL, sb⟩ => ?_)
    · exact but_put b01 fL
    · exact R1.same (same_new nL)
    · obtain ⟨rfl, k, hk, rfl⟩ := yat_of y
      have hk : (lamps n)[i]? = some k := hk
      have et : (lamps n).take (i + 1) = (lamps n).take i ++ [k] := by rw [List.take_add_one, hk]; rfl
      refine ⟨rfl, .ref r, rfl, .int th, rfl, r, sc, ns, th, rfl, R2, t0, t1, fun H4 v b4 R4 v0 v1 => ?_⟩
      have nLr : L ≠ r := by
        obtain ⟨_, _, _, _, h1⟩ := R1.at_
        exact (ne_of_none h1 nL).symm
      have hL4 := b4 _ _ hL nLr
      have b24 := b2.trans b4
      refine ⟨rfl, _, rfl, ite2 (fun _ => ?_) (fun _ => ⟨b24, R4, ms, hL4, sb.trans (by rw [et]; exact List.sublist_append_left _ _)⟩)⟩
      have lm : ms.length ≤ n := by
        have := sb.length_le
        rw [List.length_take, lamps_len] at this
        omega
      refine ⟨.int k, rfl, _, hL4, small' (by rw [List.length_map]; omega), but_put b24 fL, R.but (but_put b24 fL) ?_, ms ++ [k], ?_, ?_⟩
      · obtain ⟨i1, z1, q1, h0, h1⟩ := R4.at_
        exact ⟨i1, z1, q1, h0, by rw [upd_ne nLr.symm]; exact h1⟩
      · show upd _ _ _ L = _
        rw [upd_same, List.map_append]
        rfl
      · rw [et]
        exact List.Sublist.append sb (List.Sublist.refl _)
    · have sb : ms.Sublist ((lamps n).take n) := sb
      rw [List.take_of_length_le (by rw [lamps_len]; exact Nat.le_refl _)] at sb
      refine ⟨L, _, rfl, .inl ⟨SqL.of hL, fun p np => ?_⟩⟩
      refine q _ p ms (b2.trans (same_but (same_new np) r)) (R2.same (same_new np)) upd_same ⟨List.Pairwise.sublist sb (asc_lamps n), fun x hx => mem_lamps.1 (sb.subset hx)⟩
end
end Pl


set_option Elab.async false
set_option linter.all false
set_option maxRecDepth 100000
set_option maxHeartbeats 4000000
namespace Pl
open PySem PySem.Spec PyProof.Rows L2 Pr
section
variable {P : Program} {w : World} {K : PySem.W.Frag} {mg : Str → Option Value} {base : Heap}
def sp_law_web (K : PySem.W.Frag) : Sp := fun vs H Q _ => ∃ (r s : Addr) (ns : List Int), vs = [.ref r, .int 6] ∧ RowAt K H r s ns ∧
  ∀ H' p n A, SameBut r H H' → RowAt K H' r s ns → WebAt H' p n A → Lex A → Q (.ref p) H'
theorem ok_law_web (T : Bi mg) (D : Has K mg "_law_web" s_law_web ["_law_row", "_law_most"]) (C_law_taken : Cal P w K mg base 1 "_law_taken" ["_law_row", "_law_many"] (sp_law_taken K)) (C_law_pick : Cal P w K mg base 2 "_law_pick" ["_law_row", "_law_things"] (sp_law_pick K)) : Cal P w K mg base 3 "_law_web" ["_law_row", "_law_most"] (sp_law_web K) := by
  refine Cal.of D sc_law_web (fun vs H Q E h => ?_) (fun f cdv A0 outer s H vs Q E hr h => ?_)
  · obtain ⟨a, b, n, rfl, _⟩ := h
    rfl
  · obtain ⟨r, sc, ns, rfl, R, q⟩ := h
    refine ⟨_, pss_cons (ps_par (i := 2) (j := 3) rfl sc_law_web.nd rfl rfl (by decide) rfl rfl (pa_cons (pe_op op_add pe_int (pe_cal C_law_taken (hr.mono (by decide)) (by rfl) (pa_cons (pv 0) (pa_cons (pv 1) pa_nil)))) (pa_cons (pe_cal C_law_taken (hr.mono (by decide)) (by rfl) (pa_cons (pv 0) (pa_cons pe_int pa_nil))) pa_nil)) (by rfl))
      (pss_cons (ps_par (i := 4) (j := 5) rfl sc_law_web.nd rfl rfl (by decide) rfl rfl (pa_cons (pe_cal C_law_pick (hr.mono (by decide)) (by rfl) (pa_cons (pv 0) (pa_cons (pe_lst (pa_cons pe_int (pa_cons pe_int (pa_cons pe_int pa_nil)))) pa_nil))) (pa_cons (pe_lst pa_nil) pa_nil)) (by rfl))
      (pss_cons (ps_for PassesOwn.never rfl (pi_range1 (by rfl) T.range (pa_cons (pv 2) pa_nil)) (pg_name (i := 6) sc_law_web.nd rfl (.inl rfl))
      (pss_one (ps_for PassesOwn.never rfl (pi_range1 (by rfl) T.range (pa_cons (pv 2) pa_nil)) (pg_name (i := 7) sc_law_web.nd rfl (.inl rfl))
      (pss_one (ps_if (PW.pt (pw_and (pt_cmpR op_ne (pv 6) (pv 7) (nomark _)) (pw_and1 (PW.pt (pw_or (PW.pt (pw_and (pt_cmpR op_lt (pv 3) pe_int (nomark _)) (pw_and1 (pt_cmpR op_eq (pe_cal C_law_taken (hr.mono (by decide)) (by rfl) (pa_cons (pv 0) (pa_cons (pv 4) pa_nil))) pe_int (nomark _))))) (pw_or1 (PW.pt (pw_and (pt_cmpR op_eq (pv 3) pe_int (nomark _)) (pw_and (pt_cmpR op_lt (pv 6) (pv 7) (nomark _)) (pw_and1 (pt_cmpR op_eq (pe_cal C_law_taken (hr.mono (by decide)) (by rfl) (pa_cons (pv 0) (pa_cons pe_int pa_nil))) pe_int (nomark _)))))))))))) (pss_one (ps_expr (pe_bm PySem.F.plainAttrs_list PySem.F.slot_list_append PySem.F.type_list_append mt_append (pv 5) (pa_cons (pe_tup (pa_cons (pv 6) (pa_cons (pv 7) pa_nil))) pa_nil)))) pss_nil)))))
      (pss_cons (ps_if (pt_cmpR op_gt (pv 3) pe_int (nomark _)) (pss_one (ps_set (i := 5) sc_law_web.nd rfl (.inl rfl) (pe_op op_cat 
        (pe_lc (own := [("_law_k", 6)]) (g := gName 6) rfl sc_law_web.nd (pi_range1 (by rfl) T.range (pa_cons (pe_op op_sub (pv 2) pe_int) pa_nil)) (blkOk_by (own := [("_law_k", 6)]) (N := ["_law_row", "_law_most", "_law_many", "_law_way", "_law_thin", "_law_arrows", "_law_k", "_law_j"]) (sc := defScope s_law_web) (by decide +kernel))
          (fun _ _ _ _ _ => (pg_name (i := 6) sc_law_web.nd rfl (.inl rfl))) (fun _ _ _ _ _ => pts_nil) (fun _ _ _ _ _ => (pe_tup (pa_cons (pv 6) (pa_cons (pe_op op_add (pv 6) pe_int) pa_nil))))) (pe_ifExp (PW.pt (pw_and (pt_cmpR op_eq (pv 3) pe_int (nomark _)) (pw_and1 (pt_cmpR op_gt (pv 2) pe_int (nomark _))))) (pe_lst (pa_cons (pe_tup (pa_cons (pe_op op_sub (pv 2) pe_int) (pa_cons pe_int pa_nil))) pa_nil)) (pe_lst pa_nil))))) pss_nil)
      (pss_one (ps_ret (pe_tup (pa_cons (pv 2) (pa_cons (pe_callTy call_tuple_of (by rfl) T.tuple boot_tuple (pa_cons (pe_callB (cr_sortedT rfl) (by rfl) T.sorted boot_sorted (pa_cons (pe_callTy (cr_setOfT rfl hr.units) (by rfl) T.set boot_set (pa_cons (pv 5) pa_nil)) pa_nil)) pa_nil)) pa_nil)))))))), ?_⟩
    refine ⟨.ref r, rfl, .int 6, rfl, r, sc, ns, 6, rfl, R, by decide, by decide, fun H1 v1 b1 R1 v0 v6 => ⟨1, v1, rfl, rfl, ?_⟩⟩
    obtain ⟨v, rfl⟩ := Int.eq_ofNat_of_zero_le v0
    obtain ⟨n, en⟩ : ∃ n : Nat, n = 1 + v := ⟨_, rfl⟩
    have n1 : 1 ≤ n := by omega
    have n6 : n ≤ 6 := by omega
    refine ⟨.ref r, rfl, r, sc, ns, 6, rfl, R1, by decide, by decide, fun H2 way b2 R2 w0 w6 => ⟨_, _, rfl, ?_⟩⟩
    have b02 := b1.trans b2
    refine ⟨.ref r, rfl, by show 3 ≤ sizeLine; decide, fun t nt => ?_⟩
    obtain ⟨_, _, _, _, hr2⟩ := R2.at_
    refine ⟨r, sc, ns, t, _, rfl, R2.same (same_new nt), upd_same, (ne_of_none hr2 nt).symm, by simp, by simp, fun H3 x b3 R3 hx => ?_⟩
    obtain ⟨th, rfl, t0, t1⟩ : ∃ th : Int, x = .int th ∧ 0 < th ∧ th < 1000 := by
      simp at hx
      rcases hx with rfl | rfl | rfl <;> exact ⟨_, rfl, by decide, by decide⟩
    have b03 := b02.trans ((same_but (same_new nt) r).trans b3)
    clear hx hr2 b3 nt b1 b2 R1 R2 b02
    refine ⟨Nat.zero_le _, fun ar nar => ⟨_, _, rfl, ?_⟩⟩
    have far : H ar = none := by
      obtain ⟨_, _, _, _, h1⟩ := R3.at_
      exact but_free b03 h1 nar
    have nrr : ar ≠ r := by
      obtain ⟨_, _, _, _, h1⟩ := R3.at_
      exact (ne_of_none h1 nar).symm
    have R4 := R3.same (same_new (o := .lst []) nar)
    have b04 := but_put (o := .lst []) b03 far
    have A4 : ArwL n (upd H3 ar (.lst [])) ar [] 0 := ⟨upd_same, fun b hb => (nomatch hb), Nat.le_refl _⟩
    generalize upd H3 ar (.lst []) = H4 at R4 b04 A4
    clear R3 b03 nar
    have put : ∀ (H7 : Hp) (bs : List (Addr × Int × Int)) (m : Nat) (z : Addr) (x y : Int), SameBut r H H7 → RowAt K H7 r sc ns → ArwL n H7 ar bs m → H7 z = none → (0 ≤ x ∧ x < n) → (0 ≤ y ∧ y < n) → x ≠ y →
        SameBut r H (upd (upd H7 z (.tup [.int x, .int y])) ar (.lst (bs.map (fun b => V.ref b.1) ++ [.ref z]))) ∧ RowAt K (upd (upd H7 z (.tup [.int x, .int y])) ar (.lst (bs.map (fun b => V.ref b.1) ++ [.ref z]))) r sc ns ∧ ArwL n (upd (upd H7 z (.tup [.int x, .int y])) ar (.lst (bs.map (fun b => V.ref b.1) ++ [.ref z]))) ar (bs ++ [(z, x, y)]) (m + 1) := by
      intro H7 bs m z x y b R7 A nz hx hy ne
      have b' := but_put (o := .lst (bs.map (fun b => V.ref b.1) ++ [.ref z])) (b.trans (same_but (same_new (o := .tup [.int x, .int y]) nz) r)) far
      refine ⟨b', R.but b' ?_, A.put nz hx hy ne⟩
      obtain ⟨i1, z1, q1, h0, h1⟩ := R7.at_
      refine ⟨i1, z1, q1, h0, ?_⟩
      rw [upd_ne nrr.symm, upd_ne (ne_of_none h1 nz)]
      exact h1
    -- the double loop
    let Iv : Nat → Hp → Prop := fun m H5 => ∃ bs, SameBut r H H5 ∧ RowAt K H5 r sc ns ∧ ArwL n H5 ar bs m
    refine ⟨.int n, by subst en; rfl, n, rfl, by omega, by omega, ?_⟩
    refine for_it walk_lamps (fun i σ H5 => ∃ (y6 y7 : Option V), σ = [some (.ref r), some (.int 6), some (.int n), some (.int way), some (.int th), some (.ref ar), y6, y7] ∧ Iv (i * n) H5)
      ⟨none, none, by subst en; rfl, [], b04, R4, by rw [Nat.zero_mul]; exact A4⟩ (fun i σ H5 _ _ => trivial) (fun i x σ H5 H5' hi ⟨y6, y7, e, bs, b5, R5, A5⟩ y => ?_) (fun σ H5 ⟨y6, y7, e, bs, b5, R5, A5⟩ => ?_)
    · subst e
      obtain ⟨rfl, k, hk, rfl⟩ := yat_of y
      have hk := mem_lamps.1 (List.mem_of_getElem? (show (lamps n)[i]? = some k from hk))
      refine ⟨.int n, rfl, n, rfl, by omega, by omega, ?_⟩
      refine for_it walk_lamps (fun l σ H5 => ∃ (y7 : Option V), σ = [some (.ref r), some (.int 6), some (.int n), some (.int way), some (.int th), some (.ref ar), some (.int k), y7] ∧ Iv (i * n + l) H5)
        ⟨y7, rfl, bs, b5, R5, A5⟩ (fun i σ H5 _ _ => trivial) (fun l x σ H6 H6' hl ⟨y7, e, bs, b5, R5, A5⟩ y => ?_) (fun σ H5 ⟨y7, e, bs, b5, R5, A5⟩ => ?_)
      · subst e
        obtain ⟨rfl, j, hj, rfl⟩ := yat_of y
        have hj := mem_lamps.1 (List.mem_of_getElem? (show (lamps n)[l]? = some j from hj))
        have em : i * n + (l + 1) = i * n + l + 1 := by omega
        have lb : i * n + l < 1000 := by
          have h1 : i * n ≤ 6 * 6 := Nat.mul_le_mul (by have : i < n := hi; omega) n6
          have : l < n := hl
          omega
        refine ⟨.int k, rfl, .int j, rfl, rfl, _, rfl, ?_⟩
        by_cases ekj : k = j
        · rw [decide_eq_true (congrArg V.int ekj)]
          exact iteF (iteF ⟨_, rfl, bs, b5, R5, A5.more (by omega)⟩)
        · rw [decide_eq_false (fun z => ekj (V.int.inj z))]
          refine iteT ?_
          refine ⟨.int way, rfl, way, 3, rfl, rfl, _, rfl, ?_⟩
          by_cases e1 : way < 3
          · rw [decide_eq_true e1]
            refine iteT ⟨.ref r, rfl, .int th, rfl, r, sc, ns, th, rfl, R5, t0, t1, fun H7 v b7 R7 v0 v1 => ⟨rfl, _, rfl, ?_⟩⟩
            obtain ⟨_, _, _, _, h1⟩ := R5.at_
            have A7 := A5.but h1 nrr b7
            have b57 := b5.trans b7
            refine ite2 (fun _ => iteT ?_) (fun _ => ⟨.int way, rfl, rfl, _, rfl, ?_⟩)
            · refine ⟨.ref ar, rfl, .inl ⟨rfl, _, SqL.of A7.at_⟩, .int k, rfl, .int j, rfl, by show 2 ≤ sizeLine; decide, fun z nz => ⟨ar, _, _, rfl, rfl, same_new nz _ _ A7.at_, small' (by rw [List.length_map]; have := A7.few; omega), ?_⟩⟩
              obtain ⟨p1, p2, p3⟩ := put H7 bs _ z k j b57 R7 A7 nz hk hj ekj
              exact ⟨_, rfl, _, p1, p2, p3⟩
            · rw [decide_eq_false (fun z => by have := V.int.inj z; omega)]
              exact iteF (iteF ⟨_, rfl, bs, b57, R7, A7.more (by omega)⟩)
          · rw [decide_eq_false e1]
            refine iteF ?_
            refine ⟨.int way, rfl, rfl, _, rfl, ?_⟩
            refine ite2 (fun _ => ?_) (fun _ => iteF ⟨_, rfl, bs, b5, R5, A5.more (by omega)⟩)
            refine ⟨.int k, rfl, .int j, rfl, k, j, rfl, rfl, _, rfl, ?_⟩
            refine ite2 (fun _ => ?_) (fun _ => iteF ⟨_, rfl, bs, b5, R5, A5.more (by omega)⟩)
            refine ⟨.ref r, rfl, r, sc, ns, 2, rfl, R5, by decide, by decide, fun H7 v b7 R7 v0 v1 => ⟨rfl, _, rfl, ?_⟩⟩
            obtain ⟨_, _, _, _, h1⟩ := R5.at_
            have A7 := A5.but h1 nrr b7
            have b57 := b5.trans b7
            refine ite2 (fun _ => ?_) (fun _ => ⟨_, rfl, bs, b57, R7, A7.more (by omega)⟩)
            refine ⟨.ref ar, rfl, .inl ⟨rfl, _, SqL.of A7.at_⟩, .int k, rfl, .int j, rfl, by show 2 ≤ sizeLine; decide, fun z nz => ⟨ar, _, _, rfl, rfl, same_new nz _ _ A7.at_, small' (by rw [List.length_map]; have := A7.few; omega), ?_⟩⟩
            obtain ⟨p1, p2, p3⟩ := put H7 bs _ z k j b57 R7 A7 nz hk hj ekj
            exact ⟨_, rfl, _, p1, p2, p3⟩
      · subst e
        refine ⟨_, _, rfl, bs, b5, R5, ?_⟩
        have : (i + 1) * n = i * n + n := by rw [Nat.add_mul, Nat.one_mul]
        rw [this]
        exact A5
    · subst e
      have A5 : ArwL n H5 ar bs 36 := A5.more (by
        have : n * n ≤ 6 * 6 := Nat.mul_le_mul n6 n6
        exact this)
      clear put A4 R4 b04
      have tail : ∀ (H6 : Hp) (l : Addr) (bs : List (Addr × Int × Int)), SameBut r H H6 → RowAt K H6 r sc ns → ArwL n H6 l bs 36 → rSetOfT K P w [.ref l] H6 fun x H7 => rSortedT K P w [x] H7 fun y H8 => ∃ p ys, [y] = [.ref p] ∧
          ((SqL K H8 p ys ∧ ∀ l, H8 l = none → 2 ≤ sizeLine ∧ ∀ p, upd H8 l (.tup ys) p = none → Q (.ref p) (upd (upd H8 l (.tup ys)) p (.tup [.int n, .ref l]))) ∨ (SqT K H8 p ys ∧ 2 ≤ sizeLine ∧ ∀ l, H8 l = none → Q (.ref l) (upd H8 l (.tup [.int n, .ref p])))) := by
        intro H6 l bs b6 R6 A6
        have few := A6.few
        have inks : ∀ p ∈ bs.map (fun b => (b.1, [b.2.1, b.2.2])), ∃ b ∈ bs, p = (b.1, [b.2.1, b.2.2]) := fun p hp => by
          obtain ⟨b, hb, e⟩ := List.mem_map.1 hp
          exact ⟨b, hb, e.symm⟩
        refine ⟨l, bs.map (fun b => (b.1, [b.2.1, b.2.2])), rfl, SqL.of (by rw [A6.at_, List.map_map]; rfl), fun p hp => ?_, by rw [List.length_map]; omega, fun p L np sub sup => ?_⟩
        · obtain ⟨b, hb, rfl⟩ := inks p hp
          exact SqT.of (A6.each b hb).1
        have sA := same_new (o := SetTO P w p L) np
        have hp : upd H6 p (SetTO P w p L) p = some (SetTO P w p L) := upd_same
        generalize upd H6 p (SetTO P w p L) = H7 at sA hp ⊢
        have inL : ∀ p ∈ L, ∃ b ∈ bs, p = (b.1, [b.2.1, b.2.2]) := fun p hp => inks p (sub p hp)
        refine ⟨p, L, 2, 64, rfl, hp, fun q hq => ?_, by decide, fun q hq => ?_, fun L' p2 pm nd lt pw n2 => ?_⟩
        · obtain ⟨b, hb, rfl⟩ := inL q hq
          exact SqT.of (sA _ _ (A6.each b hb).1)
        · obtain ⟨b, hb, rfl⟩ := inL q hq
          obtain ⟨_, h1, h2, _⟩ := A6.each b hb
          refine ⟨rfl, fun m hm => ?_⟩
          simp at hm
          rcases hm with rfl | rfl <;> omega
        have inL' : ∀ p ∈ L', ∃ b ∈ bs, p = (b.1, [b.2.1, b.2.2]) := fun p hp => inL p (pm.mem_iff.1 hp)
        have sB := sA.trans (same_new (o := .lst (L'.map fun q => V.ref q.1)) n2)
        refine ⟨p2, _, rfl, .inl ⟨SqL.of upd_same, fun p3 n3 => ⟨by decide, fun p4 n4 => ?_⟩⟩⟩
        have sC := sB.trans (same_new (o := .tup (L'.map fun q => V.ref q.1)) n3)
        have sD := sC.trans (same_new (o := .tup [.int n, .ref p3]) n4)
        let g : Addr × List Int → Addr × Int × Int := fun q => (q.1, q.2.getD 0 0, q.2.getD 1 0)
        have inB : ∀ b ∈ L'.map g, ∃ c ∈ bs, b.1 = c.1 ∧ b.2 = c.2 := fun b hb => by
          obtain ⟨q, hq, rfl⟩ := List.mem_map.1 hb
          obtain ⟨c, hc, rfl⟩ := inL' q hq
          exact ⟨c, hc, rfl, rfl⟩
        refine q _ p4 n (L'.map g) (b6.trans (same_but sD r)) (R6.same sD) ⟨⟨p3, upd_same, ?_⟩, fun b hb => ?_, ⟨fun x y e => ?_, fun x y e => ?_⟩, ?_, n1, n6⟩ ?_
        · rw [upd_ne (ne_of_none upd_same n4), upd_same, List.map_map]
          rfl
        · obtain ⟨c, hc, e1, e2⟩ := inB b hb
          rw [e1, e2]
          exact sD _ _ (A6.each c hc).1
        · obtain ⟨b, hb, e⟩ := List.mem_map.1 (arr_mem.1 e)
          obtain ⟨c, hc, e1, e2⟩ := inB b hb
          obtain ⟨_, h1, h2, _⟩ := A6.each c hc
          rw [← e2, e] at h1 h2
          exact ⟨h1, h2⟩
        · obtain ⟨b, hb, e⟩ := List.mem_map.1 (arr_mem.1 e)
          obtain ⟨c, hc, e1, e2⟩ := inB b hb
          obtain ⟨_, _, _, h3⟩ := A6.each c hc
          rw [← e2, e] at h3
          exact h3
        · have h1 : (L'.map (·.2)).length ≤ (bs.map fun b => [b.2.1, b.2.2]).length := nodup_le nd fun x hx => by
            obtain ⟨q, hq, rfl⟩ := List.mem_map.1 hx
            obtain ⟨c, hc, rfl⟩ := inL' q hq
            exact List.mem_map.2 ⟨c, hc, rfl⟩
          rw [List.length_map, List.length_map] at h1
          rw [List.length_map]
          omega
        · unfold Lex
          rw [List.map_map, List.pairwise_map]
          refine List.pairwise_iff_getElem.2 fun i j hi hj hij => ?_
          have h1 := List.pairwise_iff_getElem.1 pw i j hi hj hij
          have h2 := List.pairwise_iff_getElem.1 (List.pairwise_map.1 nd) i j hi hj hij
          obtain ⟨c, hc, ec⟩ := inL' L'[i] (List.getElem_mem hi)
          obtain ⟨d, hd, ed⟩ := inL' L'[j] (List.getElem_mem hj)
          rw [ec, ed] at h1 h2 ⊢
          obtain ⟨_, c1, c2, _⟩ := A6.each c hc
          obtain ⟨_, d1, d2, _⟩ := A6.each d hd
          exact pair_lt (x := c.2.1) (y := c.2.2) (x' := d.2.1) (y' := d.2.2) h1 h2 ⟨by omega, by omega⟩ ⟨by omega, by omega⟩ ⟨by omega, by omega⟩ ⟨by omega, by omega⟩
      refine ⟨.int way, rfl, way, 3, rfl, rfl, _, rfl, ite2 (fun _ => ?_) (fun _ => ⟨.int n, rfl, .ref ar, rfl, tail H5 ar bs b5 R5 A5⟩)⟩
      refine ⟨.int n, rfl, n, 1, rfl, rfl, (n : Int) - 1, rfl, by omega, by omega, fun L nL => ?_⟩
      have lm : ((n : Int) - 1).toNat ≤ 5 := by omega
      refine lc_fm walk_lamps (lamps ((n : Int) - 1).toNat) V.int (by rw [lamps_len]) (fun i H x H' y => yat_of y) (fun _ => true) (fun k y H2 => ∃ z, y = .ref z ∧ H2 z = some (.tup [.int k, .int (k + 1)])) nL (by rw [lamps_len]; omega) (fun H2 s2 => trivial)
        (fun k y H2 H3 ⟨acc, hL⟩ s ⟨z, e, hz⟩ => ⟨z, e, s _ _ hz (ne_of hz hL (fun z => nomatch z))⟩) (fun k H2 N hk s2 hL hN1 _ => ?_) (fun H6 ys s6 hL pr => ?_)
      · refine ⟨rfl, iteT (B := N H2) ?_⟩
        refine ⟨.int k, rfl, .int k, rfl, k, 1, rfl, rfl, by show 2 ≤ sizeLine; decide, fun z nz => ?_⟩
        exact hN1 rfl _ _ (same_new nz) ⟨z, rfl, upd_same⟩
      rw [filter_all] at pr
      have lys : ys.length ≤ 5 := by
        have := Paired.length pr
        rw [lamps_len] at this
        omega
      have yin : ∀ y ∈ ys, ∃ k ∈ lamps ((n : Int) - 1).toNat, ∃ z, y = .ref z ∧ H6 z = some (.tup [.int k, .int (k + 1)]) := by
        have key : ∀ {l : List Int} {m : List V}, Paired (fun k y => ∃ z, y = V.ref z ∧ H6 z = some (.tup [.int k, .int (k + 1)])) l m → ∀ y ∈ m, ∃ k ∈ l, ∃ z, y = .ref z ∧ H6 z = some (.tup [.int k, .int (k + 1)]) := by
          intro l m pr
          induction pr with
          | nil => intro y hy; cases hy
          | cons r t ih =>
            intro y hy
            rcases List.mem_cons.1 hy with rfl | hy
            · exact ⟨_, List.mem_cons_self, r⟩
            · obtain ⟨pa, h1, h2⟩ := ih y hy
              exact ⟨pa, List.mem_cons_of_mem _ h1, h2⟩
        exact key pr
      obtain ⟨bs1, eb, hb1⟩ := arrows_at (H := H6) (ys := ys) fun y hy => by
        obtain ⟨k, _, z, e, hz⟩ := yin y hy
        exact ⟨z, _, _, e, hz⟩
      have lb1 : bs1.length ≤ 5 := by rw [← List.length_map (f := fun p : Addr × Int × Int => V.ref p.1), eb]; exact lys
      have A6 : ArwL n H6 L bs1 5 := by
        refine ⟨by rw [eb]; exact hL, fun b hb => ⟨hb1 b hb, ?_⟩, lb1⟩
        obtain ⟨k, hk, z, e, hz⟩ := yin (.ref b.1) (by rw [← eb]; exact List.mem_map.2 ⟨b, hb, rfl⟩)
        cases e
        rw [hb1 b hb] at hz
        have hz := Option.some.inj hz
        simp only [HO.tup.injEq, List.cons.injEq, V.int.injEq, and_true] at hz
        have := mem_lamps.1 hk
        omega
      have fin : ∀ (H8 : Hp) (l2 : Addr) (bs2 : List (Addr × Int × Int)), Same H6 H8 → ArwL n H8 l2 bs2 1 → ∀ p, H8 p = none →
          SameBut r H (upd H8 p (.lst (bs1.map (fun b => V.ref b.1) ++ bs2.map fun b => V.ref b.1))) ∧ RowAt K (upd H8 p (.lst (bs1.map (fun b => V.ref b.1) ++ bs2.map fun b => V.ref b.1))) r sc ns ∧ ArwL n (upd H8 p (.lst (bs1.map (fun b => V.ref b.1) ++ bs2.map fun b => V.ref b.1))) p (bs1 ++ bs2) 36 := by
        intro H8 l2 bs2 s8 A8 p np
        have sp := same_new (o := .lst (bs1.map (fun b => V.ref b.1) ++ bs2.map fun b => V.ref b.1)) np
        refine ⟨b5.trans (same_but (s6.trans (s8.trans sp)) r), R5.same (s6.trans (s8.trans sp)), by rw [upd_same, List.map_append], fun b hb => ?_, by rw [List.length_append]; have := A8.few; omega⟩
        rcases List.mem_append.1 hb with hb | hb
        · exact ⟨sp _ _ (s8 _ _ (A6.each b hb).1), (A6.each b hb).2⟩
        · exact ⟨sp _ _ (A8.each b hb).1, (A8.each b hb).2⟩
      have big : ∀ bs2 : List (Addr × Int × Int), bs2.length ≤ 1 → (bs1.map fun b => V.ref b.1).length + (bs2.map fun b => V.ref b.1).length ≤ sizeLine := fun bs2 h => small (by rw [List.length_map, List.length_map]; omega)
      have none2 : ∀ (p : Addr), H6 p = none → ArwL n (upd H6 p (.lst [])) p [] 1 := fun p np => ⟨upd_same, fun b hb => (nomatch hb), Nat.zero_le _⟩
      refine ⟨.int way, rfl, rfl, _, rfl, ite2 (fun _ => ⟨.int n, rfl, n, 1, rfl, rfl, _, rfl, ite2 (fun hn => ?_) (fun _ => ?_)⟩) (fun _ => iteF ?_)⟩
      · have hn : (1 : Int) < n := of_decide_eq_true hn
        refine ⟨.int n, rfl, n, 1, rfl, rfl, by show 2 ≤ sizeLine; decide, fun z nz => ⟨by show 1 ≤ sizeLine; decide, fun l2 nl2 => ?_⟩⟩
        have sz := same_new (o := .tup [.int ((n : Int) - 1), .int 0]) nz
        have s8 := sz.trans (same_new (o := .lst [.ref z]) nl2)
        have A8 : ArwL n (upd (upd H6 z (.tup [.int ((n : Int) - 1), .int 0])) l2 (.lst [.ref z])) l2 [(z, (n : Int) - 1, 0)] 1 := by
          refine ⟨upd_same, fun b hb => ?_, Nat.le_refl _⟩
          have : b = (z, (n : Int) - 1, 0) := by simpa using hb
          subst this
          refine ⟨?_, ⟨by show (0 : Int) ≤ (n : Int) - 1; omega, by show (n : Int) - 1 < n; omega⟩, ⟨Int.le_refl 0, by show (0 : Int) < n; omega⟩, by show (n : Int) - 1 ≠ 0; omega⟩
          exact same_new nl2 _ _ upd_same
        refine ⟨L, l2, _, _, rfl, rfl, s8 _ _ A6.at_, A8.at_, big _ (Nat.le_refl _), fun p np => ?_⟩
        obtain ⟨p1, p2, p3⟩ := fin _ l2 _ s8 A8 p np
        exact ⟨.int n, rfl, .ref p, rfl, tail _ p _ p1 p2 p3⟩
      · refine ⟨by decide, fun l2 nl2 => ?_⟩
        have s8 := same_new (o := .lst []) nl2
        have A8 := none2 l2 nl2
        refine ⟨L, l2, _, _, rfl, rfl, s8 _ _ A6.at_, A8.at_, big _ (Nat.zero_le _), fun p np => ?_⟩
        obtain ⟨p1, p2, p3⟩ := fin _ l2 _ s8 A8 p np
        exact ⟨.int n, rfl, .ref p, rfl, tail _ p _ p1 p2 p3⟩
      · refine ⟨by decide, fun l2 nl2 => ?_⟩
        have s8 := same_new (o := .lst []) nl2
        have A8 := none2 l2 nl2
        refine ⟨L, l2, _, _, rfl, rfl, s8 _ _ A6.at_, A8.at_, big _ (Nat.zero_le _), fun p np => ?_⟩
        obtain ⟨p1, p2, p3⟩ := fin _ l2 _ s8 A8 p np
        exact ⟨.int n, rfl, .ref p, rfl, tail _ p _ p1 p2 p3⟩
end
end Pl


set_option Elab.async false
set_option linter.all false
set_option maxRecDepth 100000
set_option maxHeartbeats 4000000
namespace Pl
open PySem PySem.Spec PyProof.Rows L2 Pr
abbrev s_law_changed : Stmt := topS 32
theorem sc_law_changed : FnScope ["_law_burning_here", "_law_lamp", "_law_k"] ["_law_burning_here", "_law_lamp"] (defScope s_law_changed) := ⟨rfl, rfl, rfl, by decide +kernel, rfl, by decide +kernel, by decide +kernel⟩
abbrev s_law_light : Stmt := topS 33
theorem sc_law_light : FnScope ["_law_web_here", "_law_burning_here", "_law_k", "_law_one"] ["_law_web_here", "_law_burning_here"] (defScope s_law_light) := ⟨rfl, rfl, rfl, by decide +kernel, rfl, by decide +kernel, by decide +kernel⟩
abbrev s_law_quench : Stmt := topS 34
theorem sc_law_quench : FnScope ["_law_web_here", "_law_burning_here", "_law_k", "_law_one"] ["_law_web_here", "_law_burning_here"] (defScope s_law_quench) := ⟨rfl, rfl, rfl, by decide +kernel, rfl, by decide +kernel, by decide +kernel⟩
abbrev s_law_after : Stmt := topS 35
theorem sc_law_after : FnScope ["_law_web_here", "_law_burning_here", "_law_k"] ["_law_web_here", "_law_burning_here"] (defScope s_law_after) := ⟨rfl, rfl, rfl, by decide +kernel, rfl, by decide +kernel, by decide +kernel⟩
def arrD (A : List (Addr × Int × Int)) : List PyData := (A.map fun p => (p.1, [p.2.1, p.2.2])).map fun p => tupD p.2
theorem dp_arr {K : PySem.W.Frag} {H : Hp} {t : Addr} {A : List (Addr × Int × Int)} (ht : H t = some (.tup (A.map fun p => V.ref p.1))) (hA : ∀ p ∈ A, H p.1 = some (.tup [.int p.2.1, .int p.2.2])) : Dp K H (.ref t) (.tuple (arrD A)) := by
  have := dpAll_tups (K := K) (H := H) (bs := A.map fun p => (p.1, [p.2.1, p.2.2])) fun p hp => by
    obtain ⟨c, hc, rfl⟩ := List.mem_map.1 hp
    exact hA c hc
  rw [List.map_map] at this
  exact .tup (SqT.of ht) this
theorem shaped_arr (A : List (Addr × Int × Int)) : SeqAt.shaped (.tuple (arrD A)) = true := by
  have e : arrD A = (A.map fun p => [p.2.1, p.2.2]).map tupD := by
    unfold arrD
    rw [List.map_map, List.map_map]
    rfl
  rw [e]
  exact shaped_tuple (lay_tups _) (Nat.le_trans (depth_tups _) (by decide))
theorem any_arr (A : List (Addr × Int × Int)) (x y : Int) : (arrD A).any (fun z => PyData.eqv z (tupD [x, y])) = arr A x y := by
  refine Bool.eq_iff_iff.2 ?_
  rw [List.any_eq_true, arr_mem]
  unfold arrD
  constructor
  · rintro ⟨d, hd, e⟩
    obtain ⟨q, hq, rfl⟩ := List.mem_map.1 hd
    obtain ⟨p, hp, rfl⟩ := List.mem_map.1 hq
    rw [eqv_ti] at e
    have e := of_decide_eq_true e
    simp at e
    exact List.mem_map.2 ⟨p, hp, Prod.ext e.1 e.2⟩
  · intro h
    obtain ⟨p, hp, e⟩ := List.mem_map.1 h
    refine ⟨tupD [p.2.1, p.2.2], List.mem_map.2 ⟨_, List.mem_map.2 ⟨p, hp, rfl⟩, rfl⟩, ?_⟩
    rw [eqv_ti, e]
    exact decide_eq_true rfl
section
variable {P : Program} {w : World} {K : PySem.W.Frag} {mg : Str → Option Value} {base : Heap}
theorem ok_law_changed (T : Bi mg) (D : Has K mg "_law_changed" s_law_changed ["_law_burning_here", "_law_lamp"]) : Cal P w K mg base 1 "_law_changed" ["_law_burning_here", "_law_lamp"] sp_changed := by
  refine Cal.of D sc_law_changed (fun vs H Q E h => ?_) (fun f cdv A0 outer s H vs Q E hr h => ?_)
  · obtain ⟨b, n, S, k, rfl, _⟩ := h
    rfl
  · obtain ⟨b, n, S, k, rfl, hb, hS, h6, q⟩ := h
    have lS := hS.few
    refine ⟨_, pss_cons (ps_if (pt_cmpR op_in_seq (pv 1) (pv 0) (by rfl)) (pss_one (ps_ret (pe_callTy call_tuple_of (by rfl) T.tuple boot_tuple (pa_cons 
        (pe_lc (own := [("_law_k", 2)]) (g := gName 2) rfl sc_law_changed.nd (pi_tup (pv 0)) (blkOk_by (own := [("_law_k", 2)]) (N := ["_law_burning_here", "_law_lamp", "_law_k"]) (sc := defScope s_law_changed) (by decide +kernel))
          (fun _ _ _ _ _ => (pg_name (i := 2) sc_law_changed.nd rfl (.inl rfl))) (fun _ _ _ _ _ => (pts_one (pt_cmpR op_ne (pv 2) (pv 1) (nomark _)))) (fun _ _ _ _ _ => (pv 2))) pa_nil)))) pss_nil)
      (pss_one (ps_ret (pe_callTy call_tuple_of (by rfl) T.tuple boot_tuple (pa_cons (pe_callB cr_sorted (by rfl) T.sorted boot_sorted (pa_cons (pe_op op_cat (pe_callTy call_list_of (by rfl) T.list boot_list (pa_cons (pv 0) pa_nil)) (pe_lst (pa_cons (pv 1) pa_nil))) pa_nil)) pa_nil)))), ?_⟩
    refine ⟨.int k, rfl, .ref b, rfl, b, _, rfl, .inr (SqT.of hb), rfl, flat_ints _, _, rfl, ?_⟩
    rw [inV_ints]
    by_cases hk : k ∈ S
    · rw [decide_eq_true hk]
      refine iteT ?_
      refine ⟨.ref b, rfl, b, rfl, ⟨_, SqT.of hb⟩, fun L nL => ?_⟩
      refine lc_fm walk_tup S V.int (by rw [List.length_map]) (fun i H x H' y => yat_of y) (fun j => decide (j ≠ k)) (fun j y _ => y = .int j) nL (by omega) (fun H2 s2 => SqT.of (s2 _ _ hb)) (fun _ _ _ _ _ _ e => e) (fun j H2 N hj s2 hL hN1 hN2 => ?_) (fun H2 ys s2 hL pr => ?_)
      · refine ⟨rfl, .int j, rfl, .int k, rfl, rfl, _, rfl, ?_⟩
        by_cases e : j = k
        · rw [decide_eq_true (congrArg V.int e)]
          exact iteF (hN2 (by simp [e]) H2 (Same.refl _))
        · rw [decide_eq_false (fun z => e (V.int.inj z))]
          exact iteT ⟨.int j, rfl, hN1 (by simp [e]) H2 _ (Same.refl _) rfl⟩
      · have ey := paired_fn pr
        subst ey
        refine ⟨L, _, rfl, .inl ⟨SqL.of hL, fun p np => ?_⟩⟩
        refine q _ p (s2.trans (same_new np)) ?_
        have : chg S k = S.filter fun j => decide (j ≠ k) := by unfold chg; rw [if_pos hk]
        rw [this]
        exact upd_same
    · rw [decide_eq_false hk]
      refine iteF ?_
      refine ⟨.ref b, rfl, b, _, rfl, .inr (SqT.of hb), fun l nl => ⟨.int k, rfl, by show 1 ≤ sizeLine; decide, fun l2 nl2 => ?_⟩⟩
      have s1 := same_new (o := .lst (S.map V.int)) nl
      have s2 := s1.trans (same_new (o := .lst [.int k]) nl2)
      refine ⟨l, l2, S.map V.int, [.int k], rfl, rfl, same_new nl2 _ _ upd_same, upd_same, small (by simp; omega), fun l3 nl3 => ?_⟩
      have s3 := s2.trans (same_new (o := .lst (S.map V.int ++ [.int k])) nl3)
      refine ⟨l3, S ++ [k], rfl, SqL.of (by rw [upd_same, List.map_append]; rfl), by simp; omega, fun ns p pm le np => ⟨p, _, rfl, .inl ⟨SqL.of upd_same, fun p4 n4 => ?_⟩⟩⟩
      have e := chg_ins hS.asc hk pm le
      subst e
      exact q _ p4 (s3.trans ((same_new np).trans (same_new n4))) upd_same
theorem ok_law_light (T : Bi mg) (D : Has K mg "_law_light" s_law_light ["_law_web_here", "_law_burning_here"]) : Cal P w K mg base 1 "_law_light" ["_law_web_here", "_law_burning_here"] sp_light_in := by
  refine Cal.of D sc_law_light (fun vs H Q E h => ?_) (fun f cdv A0 outer s H vs Q E hr h => ?_)
  · obtain ⟨a, b, n, A, S, rfl, _⟩ := h
    rfl
  · obtain ⟨a, b, n, A, S, rfl, W, hb, hS, q⟩ := h
    obtain ⟨t, ha, ht⟩ := W.at_
    have h6 := W.n6
    have lS := hS.few
    refine ⟨_, pss_one (ps_ret 
        (pe_lc (own := [("_law_k", 2)]) (g := gName 2) rfl sc_law_light.nd (pi_range1 (by rfl) T.range (pa_cons (pe_ix ix_tup (pv 0) pe_int (fun _ _ => rfl)) pa_nil)) (blkOk_by (own := [("_law_k", 2)]) (N := ["_law_web_here", "_law_burning_here", "_law_k", "_law_one"]) (sc := defScope s_law_light) (by decide +kernel))
          (fun _ _ _ _ _ => (pg_name (i := 2) sc_law_light.nd rfl (.inr rfl))) (fun _ _ _ _ _ => (pts_one (PW.pt (pw_and (pt_cmpR (op_notIn_seqK K) (pv 2) (pv 1) (by rfl)) (pw_and1 (pt_cmpR (op_neDK K hr.units) 
        (pe_lc (own := [("_law_one", 3)]) (g := gName 3) rfl sc_law_light.nd (pi_tupK K (pv 1)) (blkOk_by (own := [("_law_one", 3)]) (N := ["_law_web_here", "_law_burning_here", "_law_k", "_law_one"]) (sc := { kind := .function, names := [(".0", .local), ("_law_k", .cell), ("_law_burning_here", .cell), ("_law_web_here", .cell)], isGenerator := false, isCoroutine := false }) (by decide +kernel))
          (fun _ _ _ _ _ => (pg_name (i := 3) sc_law_light.nd rfl (.inl rfl))) (fun _ _ _ _ _ => (pts_one (pt_cmpR (op_inDTK K (hu65 hr)) (pe_tup (pa_cons (pv 3) (pa_cons (pv 2) pa_nil))) (pe_ix (ix_tupK K) (pv 0) pe_int (fun _ _ => rfl)) (by rfl)))) (fun _ _ _ _ _ => (pv 3))) (pe_lst pa_nil) (nomark _))))))) (fun _ _ _ _ _ => (pv 2)))), ?_⟩
    refine ⟨.ref a, rfl, a, _, 0, .int n, rfl, rfl, SqT.of ha, atI_nat (j := 0) rfl, n, rfl, by omega, by omega, fun L nL => ?_⟩
    refine lc_fm walk_lamps (lamps n) V.int (by rw [lamps_len]) (fun i H x H' y => yat_of y) (fun k => !decide (k ∈ S) && S.any fun j => arr A j k) (fun k y _ => y = .int k) nL (by rw [lamps_len]; omega) (fun H2 s2 => trivial)
      (fun _ _ _ _ _ _ e => e) (fun k H2 N hk s2 hL hN1 hN2 => ?_) (fun H2 ys s2 hL pr => ?_)
    · have hb2 := s2 _ _ hb
      refine ⟨rfl, .int k, rfl, .ref b, rfl, b, _, rfl, .inr (SqT.of hb2), rfl, flat_ints _, _, rfl, ?_⟩
      rw [inV_ints]
      by_cases e1 : k ∈ S
      · rw [decide_eq_true e1]
        exact iteF (iteF (hN2 (by simp [e1]) H2 (Same.refl _)))
      · rw [decide_eq_false e1]
        refine iteT ?_
        refine ⟨.ref b, rfl, b, rfl, ⟨_, SqT.of hb2⟩, fun L2 nL2 => ?_⟩
        refine lc_fm walk_tup S V.int (by rw [List.length_map]) (fun i H x H' y => yat_of y) (fun j => arr A j k) (fun j y _ => y = .int j) nL2 (by omega) (fun H3 s3 => SqT.of (s3 _ _ hb2))
          (fun _ _ _ _ _ _ e => e) (fun j H3 N2 hj s3 hL3 hN3 hN4 => ?_) (fun H3 ys s3 hL3 pr => ?_)
        · have hb3 := s3 _ _ hb2
          refine ⟨rfl, .int j, rfl, .int k, rfl, by show 2 ≤ sizeLine; decide, fun z nz => ?_⟩
          have sz := same_new (o := .tup [.int j, .int k]) nz
          have s23 := (s2.trans s3).trans sz
          refine ⟨.ref a, rfl, a, _, 1, .ref t, rfl, rfl, SqT.of (s23 _ _ ha), atI_nat (j := 1) rfl, tupD [j, k], _, dp_ti (.of upd_same), dp_arr (s23 _ _ ht) (fun p hp => s23 _ _ (W.each p hp)), shaped_ti _, shaped_arr A, _, rfl, ?_⟩
          rw [any_arr]
          by_cases e2 : arr A j k = true
          · rw [e2]
            exact iteT ⟨.int j, rfl, hN3 e2 _ _ sz rfl⟩
          · rw [Bool.eq_false_iff.2 e2]
            exact iteF (hN4 (Bool.eq_false_iff.2 e2) _ sz)
        · have ey := paired_fn pr
          subst ey
          refine ⟨Nat.zero_le _, fun M nM => ?_⟩
          have s4 := same_new (o := .lst []) nM
          have s24 := s3.trans s4
          refine ⟨.list ((S.filter fun j => arr A j k).map .int), .list [], dp_li (SqL.of (s4 _ _ hL3)), .lst (SqL.of upd_same) .nil, shaped_li _, rfl, _, rfl, ?_⟩
          rw [eqv_nil, List.isEmpty_map]
          by_cases e2 : (S.any fun j => arr A j k) = true
          · have e3 : (S.filter fun j => arr A j k).isEmpty = false := by
              obtain ⟨j, hj, e⟩ := List.any_eq_true.1 e2
              refine Bool.eq_false_iff.2 fun z => ?_
              have := List.filter_eq_nil_iff.1 (List.isEmpty_iff.1 z) j hj
              exact this e
            rw [e3]
            exact iteT ⟨.int k, rfl, hN1 (by simp only [decide_eq_false e1, e2]; rfl) _ _ s24 rfl⟩
          · have e3 : (S.filter fun j => arr A j k).isEmpty = true := by
              rw [List.isEmpty_iff, List.filter_eq_nil_iff]
              intro j hj e
              exact e2 (List.any_eq_true.2 ⟨j, hj, e⟩)
            rw [e3]
            exact iteF (hN2 (by simp only [decide_eq_false e1, Bool.eq_false_iff.2 e2]; rfl) _ s24)
    · have ey := paired_fn pr
      subst ey
      exact q _ L s2 hL
theorem quenchL_eq {n : Nat} {E : Int → Int → Bool} {S : List Int} (hS : St n S) : quenchL n E S = S.filter fun k => decide (k ∈ S) && S.any fun j => E k j := by
  refine asc_ext (asc_quenchL n E S) (hS.asc.filter _) fun x => ?_
  unfold quenchL
  rw [List.mem_filter, List.mem_filter, mem_lamps]
  constructor
  · rintro ⟨_, h⟩
    refine ⟨?_, h⟩
    rw [Bool.and_eq_true] at h
    exact of_decide_eq_true h.1
  · rintro ⟨h, h2⟩
    exact ⟨hS.mem x h, h2⟩
theorem ok_law_quench (T : Bi mg) (D : Has K mg "_law_quench" s_law_quench ["_law_web_here", "_law_burning_here"]) : Cal P w K mg base 1 "_law_quench" ["_law_web_here", "_law_burning_here"] sp_quench_in := by
  refine Cal.of D sc_law_quench (fun vs H Q E h => ?_) (fun f cdv A0 outer s H vs Q E hr h => ?_)
  · obtain ⟨a, b, n, A, S, rfl, _⟩ := h
    rfl
  · obtain ⟨a, b, n, A, S, rfl, W, hb, hS, q⟩ := h
    obtain ⟨t, ha, ht⟩ := W.at_
    have h6 := W.n6
    have lS := hS.few
    refine ⟨_, pss_one (ps_ret 
        (pe_lc (own := [("_law_k", 2)]) (g := gName 2) rfl sc_law_quench.nd (pi_tup (pv 1)) (blkOk_by (own := [("_law_k", 2)]) (N := ["_law_web_here", "_law_burning_here", "_law_k", "_law_one"]) (sc := defScope s_law_quench) (by decide +kernel))
          (fun _ _ _ _ _ => (pg_name (i := 2) sc_law_quench.nd rfl (.inr rfl))) (fun _ _ _ _ _ => (pts_one (pt_cmpR (op_neDK K hr.units) 
        (pe_lc (own := [("_law_one", 3)]) (g := gName 3) rfl sc_law_quench.nd (pi_tupK K (pv 1)) (blkOk_by (own := [("_law_one", 3)]) (N := ["_law_web_here", "_law_burning_here", "_law_k", "_law_one"]) (sc := { kind := .function, names := [(".0", .local), ("_law_k", .cell), ("_law_burning_here", .cell), ("_law_web_here", .cell)], isGenerator := false, isCoroutine := false }) (by decide +kernel))
          (fun _ _ _ _ _ => (pg_name (i := 3) sc_law_quench.nd rfl (.inl rfl))) (fun _ _ _ _ _ => (pts_one (pt_cmpR (op_inDTK K (hu65 hr)) (pe_tup (pa_cons (pv 2) (pa_cons (pv 3) pa_nil))) (pe_ix (ix_tupK K) (pv 0) pe_int (fun _ _ => rfl)) (by rfl)))) (fun _ _ _ _ _ => (pv 3))) (pe_lst pa_nil) (nomark _)))) (fun _ _ _ _ _ => (pv 2)))), ?_⟩
    refine ⟨.ref b, rfl, b, rfl, ⟨_, SqT.of hb⟩, fun L nL => ?_⟩
    refine lc_fm walk_tup S V.int (by rw [List.length_map]) (fun i H x H' y => yat_of y) (fun k => decide (k ∈ S) && S.any fun j => arr A k j) (fun k y _ => y = .int k) nL (by omega) (fun H2 s2 => SqT.of (s2 _ _ hb))
      (fun _ _ _ _ _ _ e => e) (fun k H2 N hk s2 hL hN1 hN2 => ?_) (fun H2 ys s2 hL pr => ?_)
    · have hb2 := s2 _ _ hb
      refine ⟨rfl, .ref b, rfl, b, rfl, ⟨_, SqT.of hb2⟩, fun L2 nL2 => ?_⟩
      refine lc_fm walk_tup S V.int (by rw [List.length_map]) (fun i H x H' y => yat_of y) (fun j => arr A k j) (fun j y _ => y = .int j) nL2 (by omega) (fun H3 s3 => SqT.of (s3 _ _ hb2))
        (fun _ _ _ _ _ _ e => e) (fun j H3 N2 hj s3 hL3 hN3 hN4 => ?_) (fun H3 ys s3 hL3 pr => ?_)
      · have hb3 := s3 _ _ hb2
        refine ⟨rfl, .int k, rfl, .int j, rfl, by show 2 ≤ sizeLine; decide, fun z nz => ?_⟩
        have sz := same_new (o := .tup [.int k, .int j]) nz
        have s23 := (s2.trans s3).trans sz
        refine ⟨.ref a, rfl, a, _, 1, .ref t, rfl, rfl, SqT.of (s23 _ _ ha), atI_nat (j := 1) rfl, tupD [k, j], _, dp_ti (.of upd_same), dp_arr (s23 _ _ ht) (fun p hp => s23 _ _ (W.each p hp)), shaped_ti _, shaped_arr A, _, rfl, ?_⟩
        rw [any_arr]
        by_cases e2 : arr A k j = true
        · rw [e2]
          exact iteT ⟨.int j, rfl, hN3 e2 _ _ sz rfl⟩
        · rw [Bool.eq_false_iff.2 e2]
          exact iteF (hN4 (Bool.eq_false_iff.2 e2) _ sz)
      · have ey := paired_fn pr
        subst ey
        refine ⟨Nat.zero_le _, fun M nM => ?_⟩
        have s4 := same_new (o := .lst []) nM
        have s24 := s3.trans s4
        refine ⟨.list ((S.filter fun j => arr A k j).map .int), .list [], dp_li (SqL.of (s4 _ _ hL3)), .lst (SqL.of upd_same) .nil, shaped_li _, rfl, _, rfl, ?_⟩
        rw [eqv_nil, List.isEmpty_map]
        by_cases e2 : (S.any fun j => arr A k j) = true
        · have e3 : (S.filter fun j => arr A k j).isEmpty = false := by
            obtain ⟨j, hj, e⟩ := List.any_eq_true.1 e2
            refine Bool.eq_false_iff.2 fun z => ?_
            have := List.filter_eq_nil_iff.1 (List.isEmpty_iff.1 z) j hj
            exact this e
          rw [e3]
          exact iteT ⟨.int k, rfl, hN1 (by simp only [decide_eq_true hk, e2]; rfl) _ _ s24 rfl⟩
        · have e3 : (S.filter fun j => arr A k j).isEmpty = true := by
            rw [List.isEmpty_iff, List.filter_eq_nil_iff]
            intro j hj e
            exact e2 (List.any_eq_true.2 ⟨j, hj, e⟩)
          rw [e3]
          exact iteF (hN2 (by simp only [decide_eq_true hk, Bool.eq_false_iff.2 e2]; rfl) _ s24)
    · have ey := paired_fn pr
      rw [← quenchL_eq hS] at ey
      subst ey
      exact q _ L s2 hL
/-- the deeds on S with what each makes, in a list at l -/
def AftL (H : Hp) (n : Nat) (E : Int → Int → Bool) (S : List Int) (l : Addr) : Prop := ∃ cs : List (Addr × Addr × Int), H l = some (.lst (cs.map fun c => V.ref c.1)) ∧ cs.map (·.2.2) = doable n E S ∧
  ∀ c ∈ cs, H c.1 = some (.tup [.int c.2.2, .ref c.2.1]) ∧ TI H c.2.1 (chg S c.2.2)
def sp_law_after : Sp := fun vs H Q _ => ∃ (a b : Addr) (n : Nat) (A : List (Addr × Int × Int)) (S : List Int), vs = [.ref a, .ref b] ∧ WebAt H a n A ∧ TI H b S ∧ St n S ∧
  ∀ H' p, Same H H' → AftL H' n (arr A) S p → Q (.ref p) H'
theorem ok_law_after (T : Bi mg) (D : Has K mg "_law_after" s_law_after ["_law_web_here", "_law_burning_here"]) (C_law_light : Cal P w K mg base 1 "_law_light" ["_law_web_here", "_law_burning_here"] sp_light_in) (C_law_quench : Cal P w K mg base 1 "_law_quench" ["_law_web_here", "_law_burning_here"] sp_quench_in) (C_law_changed : Cal P w K mg base 1 "_law_changed" ["_law_burning_here", "_law_lamp"] sp_changed) : Cal P w K mg base 2 "_law_after" ["_law_web_here", "_law_burning_here"] sp_law_after := by
  refine Cal.of D sc_law_after (fun vs H Q E h => ?_) (fun f cdv A0 outer s H vs Q E hr h => ?_)
  · obtain ⟨a, b, n, A, S, rfl, _⟩ := h
    rfl
  · obtain ⟨a, b, n, A, S, rfl, W, hb, hS, q⟩ := h
    refine ⟨_, pss_one (ps_ret 
        (pe_lc (own := [("_law_k", 2)]) (g := gName 2) rfl sc_law_after.nd (pi_list (pe_callB cr_sorted (by rfl) T.sorted boot_sorted (pa_cons (pe_op op_cat (pe_cal C_law_light (hr.mono (by decide)) (by rfl) (pa_cons (pv 0) (pa_cons (pv 1) pa_nil))) (pe_cal C_law_quench (hr.mono (by decide)) (by rfl) (pa_cons (pv 0) (pa_cons (pv 1) pa_nil)))) pa_nil))) (blkOk_by (own := [("_law_k", 2)]) (N := ["_law_web_here", "_law_burning_here", "_law_k"]) (sc := defScope s_law_after) (by decide +kernel))
          (fun _ _ _ _ _ => (pg_name (i := 2) sc_law_after.nd rfl (.inl rfl))) (fun _ _ _ _ _ => pts_nil) (fun _ _ _ _ _ => (pe_tup (pa_cons (pv 2) (pa_cons (pe_cal C_law_changed (hr.mono (by decide)) (by rfl) (pa_cons (pv 1) (pa_cons (pv 2) pa_nil))) pa_nil)))))), ?_⟩
    refine ⟨.ref a, rfl, .ref b, rfl, a, b, n, A, S, rfl, W, hb, hS, fun H1 p1 s1 h1 => ?_⟩
    refine ⟨.ref a, rfl, .ref b, rfl, a, b, n, A, S, rfl, W.same s1, s1 _ _ hb, hS, fun H2 p2 s2 h2 => ?_⟩
    have f1 : (lightL n (arr A) S).length ≤ 6 := few_lamps W.n6 _
    have f2 : (quenchL n (arr A) S).length ≤ 6 := few_lamps W.n6 _
    refine ⟨p1, p2, _, _, rfl, rfl, s2 _ _ h1, h2, small (by rw [List.length_map, List.length_map]; omega), fun p3 n3 => ?_⟩
    refine ⟨p3, lightL n (arr A) S ++ quenchL n (arr A) S, rfl, SqL.of (by rw [upd_same, List.map_append]), by rw [List.length_append]; omega, fun ns p4 pm le n4 => ?_⟩
    have e := doable_of W.ok pm le
    subst e
    have s4 := (s1.trans s2).trans ((same_new (o := .lst ((lightL n (arr A) S).map V.int ++ (quenchL n (arr A) S).map V.int)) n3).trans (same_new (o := .lst ((doable n (arr A) S).map V.int)) n4))
    have h4 : upd (upd H2 p3 (.lst ((lightL n (arr A) S).map V.int ++ (quenchL n (arr A) S).map V.int))) p4 (.lst ((doable n (arr A) S).map V.int)) p4 = some (.lst ((doable n (arr A) S).map V.int)) := upd_same
    generalize upd (upd H2 p3 (.lst ((lightL n (arr A) S).map V.int ++ (quenchL n (arr A) S).map V.int))) p4 (.lst ((doable n (arr A) S).map V.int)) = H4 at s4 h4
    have hb4 := s4 _ _ hb
    have ld : (doable n (arr A) S).length ≤ 6 := few_lamps W.n6 _
    refine ⟨p4, rfl, ⟨_, SqL.of h4⟩, fun L nL => ?_⟩
    refine lc_fm walk_list (doable n (arr A) S) V.int (by rw [List.length_map]) (fun i H x H' y => yat_of y) (fun _ => true) (fun k y H2 => ∃ z c, y = .ref z ∧ H2 z = some (.tup [.int k, .ref c]) ∧ TI H2 c (chg S k)) nL (by omega) (fun H2 s2 => SqL.of (s2 _ _ h4))
      (fun k y H2 H3 ⟨acc, hL⟩ s ⟨z, c, e, hz, hc⟩ => ⟨z, c, e, s _ _ hz (ne_of hz hL (fun z => nomatch z)), s _ _ hc (ne_of hc hL (fun z => nomatch z))⟩) (fun k H5 N hk s5 hL hN1 _ => ?_) (fun H5 ys s5 hL pr => ?_)
    · refine ⟨rfl, iteT (B := N H5) ?_⟩
      refine ⟨.int k, rfl, .ref b, rfl, .int k, rfl, b, n, S, k, rfl, s5 _ _ hb4, hS, W.n6, fun H6 c s6 hc => ?_⟩
      refine ⟨by show 2 ≤ sizeLine; decide, fun z nz => ?_⟩
      exact hN1 rfl _ _ (s6.trans (same_new nz)) ⟨z, c, rfl, upd_same, same_new nz _ _ hc⟩
    · rw [filter_all] at pr
      refine q _ L (s4.trans s5) ?_
      have key : ∀ {l : List Int} {m : List V}, Paired (fun k y => ∃ z c, y = V.ref z ∧ H5 z = some (.tup [.int k, .ref c]) ∧ TI H5 c (chg S k)) l m → ∃ cs : List (Addr × Addr × Int), m = cs.map (fun c => V.ref c.1) ∧ cs.map (·.2.2) = l ∧
          ∀ c ∈ cs, H5 c.1 = some (.tup [.int c.2.2, .ref c.2.1]) ∧ TI H5 c.2.1 (chg S c.2.2) := by
        intro l m pr
        induction pr with
        | nil => exact ⟨[], rfl, rfl, fun c hc => by cases hc⟩
        | @cons k y l m r t ih =>
          obtain ⟨cs, e1, e2, h3⟩ := ih
          obtain ⟨z, c, rfl, h4, h5⟩ := r
          refine ⟨(z, c, k) :: cs, by rw [e1]; rfl, by rw [List.map_cons, e2], fun d hd => ?_⟩
          rcases List.mem_cons.1 hd with rfl | hd
          · exact ⟨h4, h5⟩
          · exact h3 d hd
      obtain ⟨cs, rfl, e2, h3⟩ := key pr
      exact ⟨cs, hL, e2, h3⟩
end
end Pl


set_option Elab.async false
set_option linter.all false
set_option maxRecDepth 100000
set_option maxHeartbeats 4000000
namespace Pl
open PySem PySem.Spec PyProof.Rows L2 Pr
abbrev s_law_from : Stmt := topS 36
theorem sc_law_from : FnScope ["_law_web_here", "_law_burning_here", "_law_found", "_law_rows", "_law_more", "_law_here", "_law_lamp", "_law_there"] ["_law_web_here", "_law_burning_here"] (defScope s_law_from) := ⟨rfl, rfl, rfl, by decide +kernel, rfl, by decide +kernel, by decide +kernel⟩
section
variable {P : Program} {w : World} {K : PySem.W.Frag} {mg : Str → Option Value} {base : Heap}
theorem ok_law_from (T : Bi mg) (D : Has K mg "_law_from" s_law_from ["_law_web_here", "_law_burning_here"]) (C_law_after : Cal P w K mg base 2 "_law_after" ["_law_web_here", "_law_burning_here"] sp_law_after) : Cal P w K mg base 3 "_law_from" ["_law_web_here", "_law_burning_here"] sp_steps_from := by
  refine Cal.of D sc_law_from (fun vs H Q E h => ?_) (fun f cdv A0 outer s H vs Q E hr h => ?_)
  · obtain ⟨a, b, n, A, S, rfl, _⟩ := h
    rfl
  · obtain ⟨a, b, n, A, S, rfl, W, hb, hS, q⟩ := h
    have hu := hu_of hr
    have h6 := W.n6
    refine ⟨_, pss_cons (ps_par (i := 2) (j := 3) rfl sc_law_from.nd rfl rfl (by decide) rfl rfl (pa_cons (pe_disp1T hu (pv 1) pe_int) (pa_cons (pe_lst (pa_cons (pv 1) pa_nil)) pa_nil)) (by rfl))
      (pss_cons (ps_while PassesOwn.never (pt_cmpR (op_neD hr.units) (pv 3) (pe_lst pa_nil) (nomark _)) (pss_cons (ps_set (i := 4) sc_law_from.nd rfl (.inl rfl) (pe_lst pa_nil))
      (pss_cons (ps_for PassesOwn.never rfl (pi_list (pv 3)) (pg_name (i := 5) sc_law_from.nd rfl (.inl rfl))
      (pss_one (ps_for PassesOwn.never rfl (pi_list (pe_cal C_law_after (hr.mono (by decide)) (by rfl) (pa_cons (pv 0) (pa_cons (pv 5) pa_nil)))) (pg_tup rfl (pgs_cons (pg_name (i := 6) sc_law_from.nd rfl (.inl rfl)) (pgs_cons (pg_name (i := 7) sc_law_from.nd rfl (.inl rfl)) pgs_nil)))
      (pss_one (ps_if (pt_cmp (pc_dnotin hu (pv 7) (pv 2))) (pss_cons (ps_dput hu (pv 2) (pv 7) (pe_op op_add (pe_dget hu (pv 2) (pv 5) (fun _ _ => rfl)) pe_int) rfl)
      (pss_one (ps_expr (pe_bm PySem.F.plainAttrs_list PySem.F.slot_list_append PySem.F.type_list_append mt_append (pv 4) (pa_cons (pv 7) pa_nil))))) pss_nil)))))
      (pss_one (ps_set (i := 3) sc_law_from.nd rfl (.inl rfl) (pv 4))))))
      (pss_one (ps_ret (pv 2)))), ?_⟩
    refine fun d nd => ⟨.ref b, rfl, b, ky S, rfl, ti_ky (same_new nd _ _ hb), upd_same, ?_⟩
    refine ⟨.ref b, rfl, by show 1 ≤ sizeLine; decide, fun l nl => ⟨_, _, rfl, ?_⟩⟩
    rw [upd_upd] at nl ⊢
    have s1 := same_new (o := .dT [(ky S, .int 0)]) nd
    have s2 := s1.trans (same_new (o := .lst [.ref b]) nl)
    have d2 : (upd (upd H d (.dT [(ky S, .int 0)])) l (.lst [.ref b])) d = some (.dT [(ky S, .int 0)]) := same_new nl _ _ upd_same
    have r2 : Rw (upd (upd H d (.dT [(ky S, .int 0)])) l (.lst [.ref b])) l [(b, S)] := ⟨upd_same, fun p hp => by
      have : p = (b, S) := by simpa using hp
      subst this
      exact s2 _ _ hb⟩
    generalize upd (upd H d (.dT [(ky S, .int 0)])) l (.lst [.ref b]) = H2 at s2 d2 r2
    refine ⟨fun m σ H3 => ∃ (l : Addr) (bs : List (Addr × List Int)) (r : Nat) (kvs : Kvs) (y4 y5 y6 y7 : Option V), σ = [some (.ref a), some (.ref b), some (.ref d), some (.ref l), y4, y5, y6, y7] ∧ Same H H3 ∧ H3 d = some (.dT kvs) ∧ Rw H3 l bs ∧ Lay n (arr A) S r kvs (bs.map (·.2)) ∧ m = (if bs = [] then 0 else 65 - r),
      ⟨_, l, [(b, S)], 0, _, none, none, none, none, rfl, s2, d2, r2, lay_start hS, rfl⟩, fun m σ H3 ⟨l, bs, r, kvs, y4, y5, y6, y7, e, s3, d3, r3, L, hm⟩ => ?_⟩
    subst e hm
    clear s2 d2 r2 nl s1
    -- while rows != []
    refine ⟨.ref l, rfl, Nat.zero_le _, fun M0 nM0 => ?_⟩
    have t0 := same_new (o := .lst []) nM0
    refine ⟨.list (bs.map fun p => tupD p.2), .list [], .lst (SqL.of (t0 _ _ r3.1)) (dpAll_tups fun p hp => t0 _ _ (r3.2 p hp)), .lst (SqL.of upd_same) .nil, shaped_lt bs, rfl, _, rfl, ?_⟩
    rw [eqv_nil, List.isEmpty_map]
    have s4 := s3.trans t0
    have d4 := t0 _ _ d3
    have r4 := r3.keep (tups_same t0) fun _ e => t0 _ _ e
    generalize upd H3 M0 (.lst []) = H4 at t0 s4 d4 r4
    cases hb0 : bs with
    | nil =>
      subst hb0
      exact iteF ⟨.ref d, rfl, q _ d kvs s4 d4 L.told⟩
    | cons p0 b0 =>
      rw [← hb0]
      have ne : bs ≠ [] := by rw [hb0]; simp
      have e0 : bs.isEmpty = false := by rw [hb0]; rfl
      rw [e0]
      refine iteT ?_
      have hr64 : r < 64 := by
        have : p0.2 ∈ bs.map (·.2) := List.mem_map.2 ⟨p0, by rw [hb0]; simp, rfl⟩
        exact dist_lt h6 W.ok hS ((L.rows _).1 this)
      rw [if_neg ne]
      refine ⟨fun σ' H' => ∃ m', m' < 65 - r ∧ ∃ (l : Addr) (bs : List (Addr × List Int)) (r : Nat) (kvs : Kvs) (y4 y5 y6 y7 : Option V), σ' = [some (.ref a), some (.ref b), some (.ref d), some (.ref l), y4, y5, y6, y7] ∧ Same H H' ∧ H' d = some (.dT kvs) ∧ Rw H' l bs ∧ Lay n (arr A) S r kvs (bs.map (·.2)) ∧ m' = (if bs = [] then 0 else 65 - r), fun σ' H' hN => hN, ?_⟩
      -- more = []
      refine ⟨Nat.zero_le _, fun M nM => ?_⟩
      have nMH : H M = none := Same.free s4 nM
      have t5 := same_new (o := .lst []) nM
      -- for here in rows
      refine ⟨.ref l, rfl, l, rfl, ⟨_, SqL.of (t5 _ _ r4.1)⟩, ?_⟩
      have few : bs.length ≤ 64 := by
        have := st_count6 h6 L.nd fun T hT => ((L.rows T).1 hT).st W.ok hS
        rwa [List.length_map] at this
      let Iv : List (List Int × Int) → Hp → Prop := fun P H5 => ∃ (kvs' : Kvs) (mo : List (Addr × List Int)), Same H H5 ∧ H5 d = some (.dT kvs') ∧ H5 l = some (.lst (bs.map fun p => V.ref p.1)) ∧ (∀ p ∈ bs, TI H5 p.1 p.2) ∧ Rw H5 M mo ∧ Bfs n (arr A) S r P kvs' (mo.map (·.2))
      refine for_it (walk_list (K := K) (a := l) (xs := bs.map fun p => V.ref p.1)) (fun i σ H5 => ∃ (y5 y6 y7 : Option V), σ = [some (.ref a), some (.ref b), some (.ref d), some (.ref l), some (.ref M), y5, y6, y7] ∧ Iv (pairs n (arr A) ((bs.take i).map (·.2))) H5)
        ⟨y5, y6, y7, rfl, kvs, [], s4.trans t5, t5 _ _ d4, t5 _ _ r4.1, fun p hp => t5 _ _ (r4.2 p hp), ⟨upd_same, fun p hp => by cases hp⟩, L.begin⟩ (fun i σ H5 _ ⟨_, _, _, _, _, _, _, _, h, _⟩ => SqL.of h) (fun i x σ H5 H6 hi ⟨z5, z6, z7, e, kvs5, mo5, s5, d5, l5, b5, m5, B5⟩ y => ?_) (fun σ H5 ⟨z5, z6, z7, e, kvs5, mo5, s5, d5, l5, b5, m5, B5⟩ => ?_)
      · subst e
        obtain ⟨rfl, p, hp, rfl⟩ := yat_of y
        have pm := List.mem_of_getElem? hp
        have hX : IsDist (arr A) S p.2 r := (L.rows _).1 (List.mem_map.2 ⟨p, pm, rfl⟩)
        have stX := hX.st W.ok hS
        have et : bs.take (i + 1) = bs.take i ++ [p] := by rw [List.take_add_one, hp]; rfl
        have W5 := W.same s5
        -- after(web, here)
        refine ⟨.ref a, rfl, .ref p.1, rfl, a, p.1, n, A, p.2, rfl, W5, b5 p pm, stX, fun H7 pd s7 ⟨cs, hd7, ecs, hcs7⟩ => ?_⟩
        refine ⟨pd, rfl, ⟨_, SqL.of hd7⟩, ?_⟩
        have lcs : cs.length = (doable n (arr A) p.2).length := by rw [← ecs, List.length_map]
        refine for_it (walk_list (K := K) (a := pd) (xs := cs.map fun c => V.ref c.1)) (fun j σ H5 => ∃ (y6 y7 : Option V), σ = [some (.ref a), some (.ref b), some (.ref d), some (.ref l), some (.ref M), some (.ref p.1), y6, y7] ∧ H5 pd = some (.lst (cs.map fun c => V.ref c.1)) ∧ (∀ c ∈ cs, H5 c.1 = some (.tup [.int c.2.2, .ref c.2.1]) ∧ TI H5 c.2.1 (chg p.2 c.2.2)) ∧ Iv (pairs n (arr A) ((bs.take i).map (·.2)) ++ ((doable n (arr A) p.2).take j).map fun k => (p.2, k)) H5)
          ⟨z6, z7, rfl, hd7, hcs7, kvs5, mo5, s5.trans s7, s7 _ _ d5, s7 _ _ l5, fun p hp => s7 _ _ (b5 p hp), m5.keep (tups_same s7) fun _ e => s7 _ _ e, by simpa using B5⟩ (fun j σ H5 _ ⟨_, _, _, h, _⟩ => SqL.of h) (fun j x σ H8 H9 hj ⟨w6, w7, e, hd8, hcs8, kvs8, mo8, s8, d8, l8, b8, m8, B8⟩ y => ?_) (fun σ H8 ⟨w6, w7, e, hd8, hcs8, kvs8, mo8, s8, d8, l8, b8, m8, B8⟩ => ?_)
        · subst e
          obtain ⟨rfl, c, hk, rfl⟩ := yat_of y
          have cm := List.mem_of_getElem? hk
          obtain ⟨hc1, ht10⟩ := hcs8 c cm
          have hk' : (doable n (arr A) p.2)[j]? = some c.2.2 := by rw [← ecs, List.getElem?_map, hk]; rfl
          have km := List.mem_of_getElem? hk'
          have hc := (mem_doable W.ok).1 km
          have etj : ((doable n (arr A) p.2).take (j + 1)).map (fun k => (p.2, k)) = ((doable n (arr A) p.2).take j).map (fun k => (p.2, k)) ++ [(p.2, c.2.2)] := by rw [List.take_add_one, hk', List.map_append]; rfl
          refine ⟨c.1, _, rfl, SqT.of hc1, rfl, _, _, rfl, _, _, rfl, rfl, ?_⟩
          -- if there not in found
          refine ⟨.ref c.2.1, rfl, .ref d, rfl, d, _, rfl, DGet.t d8 (ti_ky ht10), _, rfl, ?_⟩
          cases hv : valV kvs8 (ky (chg p.2 c.2.2)) with
          | some v =>
            refine iteF ⟨_, _, rfl, hd8, hcs8, kvs8, mo8, s8, d8, l8, b8, m8, ?_⟩
            rw [etj, ← List.append_assoc]
            exact B8.skip (by rw [hv]; simp)
          | none =>
            refine iteT ?_
            have lk := B8.keys.few h6
            have hX8 : valV kvs8 (ky p.2) = some (.int r) := (B8.get _ _).2 ⟨r, rfl, .inl ⟨Nat.le_refl _, hX⟩⟩
            refine ⟨.ref d, rfl, .ref p.1, rfl, d, .int r, rfl, by rw [← hX8]; exact DGet.t d8 (ti_ky (b8 p pm)), r, 1, rfl, rfl, .ref d, rfl, .ref c.2.1, rfl, d, _, rfl, DPut.t d8 (ti_ky ht10) (small' (by omega)), ?_⟩
            have ndM : M ≠ d := ne_of m8.1 d8 (fun z => nomatch z)
            have u1 : Tups H9 (upd H9 d (.dT (putK kvs8 (ky (chg p.2 c.2.2)) (.int ((r : Int) + 1))))) := tups_upd d8 (fun _ z => nomatch z)
            have m11 := m8.keep u1 fun xs e => by rw [upd_ne ndM]; exact e
            have lm : mo8.length ≤ 64 := by
              have := st_count6 h6 B8.nd fun T hT => ((B8.mo T).1 hT).1.st W.ok hS
              rwa [List.length_map] at this
            refine ⟨.ref M, rfl, .inl ⟨rfl, _, SqL.of m11.1⟩, .ref c.2.1, rfl, M, _, _, rfl, rfl, m11.1, small' (by rw [List.length_map]; omega), ?_⟩
            have u2 : Tups H9 (upd (upd H9 d (.dT (putK kvs8 (ky (chg p.2 c.2.2)) (.int ((r : Int) + 1))))) M (.lst (mo8.map (fun p => V.ref p.1) ++ [.ref c.2.1]))) := u1.trans (tups_upd m11.1 (fun _ z => nomatch z))
            have nlM : l ≠ M := ne_of_none r4.1 nM
            have nld : l ≠ d := ne_of l8 d8 (fun z => nomatch z)
            have npM : pd ≠ M := fun e => by
              have e1 : H9 M = some (.lst (cs.map fun c => V.ref c.1)) := e ▸ hd8
              rw [m8.1] at e1
              injection e1 with e1
              injection e1 with e1
              have e2 := congrArg (·[j]?) e1
              simp only [List.getElem?_map, hk] at e2
              cases e3 : mo8[j]? with
              | none => rw [e3] at e2; cases e2
              | some z =>
                rw [e3] at e2
                injection e2 with e2
                injection e2 with e2
                have e4 : H9 z.1 = _ := m8.2 z (List.mem_of_getElem? e3)
                rw [e2, hc1] at e4
                injection e4 with e4
                injection e4 with e4
                cases hz : z.2 with
                | nil => rw [hz] at e4; cases e4
                | cons x r =>
                  rw [hz] at e4
                  cases r with
                  | nil => cases e4
                  | cons x r => cases e4
            have npd : pd ≠ d := ne_of hd8 d8 (fun z => nomatch z)
            refine ⟨_, _, rfl, ?_, fun c hc => ⟨u2 _ _ (hcs8 c hc).1, u2 _ _ (hcs8 c hc).2⟩, putK kvs8 (ky (chg p.2 c.2.2)) (.int ((r : Int) + 1)), mo8 ++ [(c.2.1, chg p.2 c.2.2)], fun bb o e => ?_, ?_, ?_, fun p hp => u2 _ _ (b8 p hp), ?_, ?_⟩
            · show upd _ _ _ pd = _
              rw [upd_ne npM, upd_ne npd]
              exact hd8
            · rw [upd_ne (ne_of_none e nMH), upd_ne (ne_of_none e nd)]
              exact s8 _ _ e
            · rw [upd_ne ndM.symm, upd_same]
            · rw [upd_ne nlM, upd_ne nld]
              exact l8
            · exact m8.put (p := (c.2.1, chg p.2 c.2.2)) ht10 u2 (by rw [upd_same])
            · rw [etj, ← List.append_assoc, List.map_append]
              exact B8.put W.ok hS hv hX hc
        · subst e
          refine ⟨_, _, _, rfl, kvs8, mo8, s8, d8, l8, b8, m8, ?_⟩
          rw [et, List.map_append]
          show Bfs n (arr A) S r (pairs n (arr A) ((bs.take i).map (·.2) ++ [p.2])) _ _
          rw [pairs_next]
          rwa [List.length_map, lcs, List.take_length] at B8
      · subst e
        rw [List.length_map, List.take_length] at B5
        refine ⟨.ref M, rfl, _, ?_, M, mo5, r + 1, kvs5, _, _, _, _, rfl, s5, d5, m5, B5.done W.ok L, rfl⟩
        split
        · omega
        · omega
end
end Pl


set_option Elab.async false
set_option linter.all false
set_option maxRecDepth 100000
set_option maxHeartbeats 4000000
namespace Pl
open PySem PySem.Spec PyProof.Rows L2 Pr
abbrev s_law_alike : Stmt := topS 37
theorem sc_law_alike : FnScope ["_law_found", "_law_due", "_law_k"] ["_law_found", "_law_due"] (defScope s_law_alike) := ⟨rfl, rfl, rfl, by decide +kernel, rfl, by decide +kernel, by decide +kernel⟩
theorem kit2 {K : PySem.W.Frag} {t c d : String} {a b : Bool} (h1 : kitB t c = some a) (h2 : kitB t d = some b) : PySem.W.kitAny K (.type t) [.type c, .type d] = some (a || b) :=
  kitAny_cons (kit_ty h1) (fun e => kitAny_cons (kit_ty h2) (fun e2 => by rw [e, e2]; exact kitAny_nil) (fun e2 => by rw [e2, Bool.or_true])) (fun e => by rw [e]; rfl)
section
variable {P : Program} {w : World} {K : PySem.W.Frag} {mg : Str → Option Value} {base : Heap}
/-- two of the same: nothing and nothing, a number and the same number -/
def Like (x y : V) : Prop := (x = .non ∧ y = .non) ∨ ∃ i, x = .int i ∧ y = .int i
def sp_alike1 : Sp := fun vs H Q _ => ∃ x y, vs = [x, y] ∧ Like x y ∧ ∀ H', Same H H' → Q (.bl true) H'
theorem ok_law_alike1 (T : Bi mg) (D : Has K mg "_law_alike" s_law_alike ["_law_found", "_law_due"]) : Cal P w K mg base 1 "_law_alike" ["_law_found", "_law_due"] sp_alike1 := by
  refine Cal.of D sc_law_alike (fun vs H Q E h => ?_) (fun f cdv A0 outer s H vs Q E hr h => ?_)
  · obtain ⟨x, y, rfl, _⟩ := h
    rfl
  · obtain ⟨x, y, rfl, hl, q⟩ := h
    refine ⟨_, pss_cons (ps_if (pt_val (pe_callB call_isiT (by rfl) T.isinstance boot_isinstance (pa_cons (pv 1) (pa_cons (pe_tup (pa_cons (pe_bltn (v := .ty "tuple") (by rfl) T.tuple boot_tuple rfl) (pa_cons (pe_bltn (v := .ty "list") (by rfl) T.list boot_list rfl) pa_nil))) pa_nil)))) pss_never pss_nil)
      (pss_cons (ps_if (PW.pt (pw_or (pt_cmpR op_isN (pv 1) pe_non (nomark _)) (pw_or1 (pt_val (pe_isi T.isinstance T.str boot_str (pv 1)))))) (pss_one (ps_ret (pe_and (pe_cmpR op_eq (pv 0) (pv 1) (nomark _)) (pe_one (pe_cmpR op_eq (pe_isi T.isinstance T.str boot_str (pv 0)) (pe_isi T.isinstance T.str boot_str (pv 1)) (nomark _)))))) pss_nil)
      (pss_one (ps_ret (pe_and (pe_isi T.isinstance T.int boot_int (pv 0)) (pe_and (pe_cmpR op_eq (pe_isi T.isinstance T.bool boot_bool (pv 0)) (pe_isi T.isinstance T.bool boot_bool (pv 1)) (nomark _)) (pe_one (pe_cmpR op_eq (pv 0) (pv 1) (nomark _)))))))), ?_⟩
    rcases hl with ⟨rfl, rfl⟩ | ⟨i, rfl, rfl⟩
    · refine ⟨.non, rfl, by show 2 ≤ sizeLine; decide, fun tp ntp => ⟨.non, tp, _, _, _, false, rfl, upd_same, .cons (.ty _) (.cons (.ty _) .nil), .base .non, kit2 (a := false) (b := false) (by decide +kernel) (by decide +kernel), false, rfl, iteF ?_⟩⟩
      refine ⟨.non, rfl, rfl, _, rfl, ite2 (fun _ => iteT ?_) (fun h => absurd (decide_eq_true rfl) h)⟩
      refine ⟨.non, rfl, .non, rfl, rfl, _, rfl, ite2 (fun _ => ?_) (fun h => absurd (decide_eq_true rfl) h)⟩
      refine ⟨.non, rfl, _, _, _, false, rfl, .base .non, by decide +kernel, .non, rfl, _, _, _, false, rfl, .base .non, by decide +kernel, rfl, ?_⟩
      rw [decide_eq_true rfl]
      exact q _ (same_new ntp)
    · refine ⟨.int i, rfl, by show 2 ≤ sizeLine; decide, fun tp ntp => ⟨.int i, tp, _, _, _, false, rfl, upd_same, .cons (.ty _) (.cons (.ty _) .nil), .base (.int i), kit2 (a := false) (b := false) (by decide +kernel) (by decide +kernel), false, rfl, iteF ?_⟩⟩
      refine ⟨.int i, rfl, rfl, _, rfl, ite2 (fun h => nomatch (of_decide_eq_true h)) (fun _ => ?_)⟩
      refine ⟨.int i, rfl, _, _, _, false, rfl, .base (.int i), by decide +kernel, false, rfl, iteF ?_⟩
      refine ⟨.int i, rfl, _, _, _, true, rfl, .base (.int i), by decide +kernel, true, rfl, iteT ?_⟩
      refine ⟨.int i, rfl, _, _, _, false, rfl, .base (.int i), by decide +kernel, .int i, rfl, _, _, _, false, rfl, .base (.int i), by decide +kernel, rfl, _, rfl, ite2 (fun _ => ?_) (fun h => absurd (decide_eq_true rfl) h)⟩
      refine ⟨.int i, rfl, .int i, rfl, rfl, ?_⟩
      rw [decide_eq_true rfl]
      exact q _ (same_new ntp)
def sp_alike : Sp := fun vs H Q _ => ∃ x y, vs = [x, y] ∧ (Like x y ∨ ∃ a b ws, x = .ref a ∧ y = .ref b ∧ TI H a ws ∧ TI H b ws ∧ ws.length ≤ 100) ∧ ∀ H', Same H H' → Q (.bl true) H'
theorem ok_law_alike (T : Bi mg) (D : Has K mg "_law_alike" s_law_alike ["_law_found", "_law_due"]) (C_law_alike : Cal P w K mg base 1 "_law_alike" ["_law_found", "_law_due"] sp_alike1) : Cal P w K mg base 2 "_law_alike" ["_law_found", "_law_due"] sp_alike := by
  refine Cal.of D sc_law_alike (fun vs H Q E h => ?_) (fun f cdv A0 outer s H vs Q E hr h => ?_)
  · obtain ⟨x, y, rfl, _⟩ := h
    rfl
  · obtain ⟨x, y, rfl, hl, q⟩ := h
    refine ⟨_, pss_cons (ps_if (pt_val (pe_callB call_isiT (by rfl) T.isinstance boot_isinstance (pa_cons (pv 1) (pa_cons (pe_tup (pa_cons (pe_bltn (v := .ty "tuple") (by rfl) T.tuple boot_tuple rfl) (pa_cons (pe_bltn (v := .ty "list") (by rfl) T.list boot_list rfl) pa_nil))) pa_nil)))) (pss_cons (ps_if (PW.pt (pw_or (pt_not (pt_val (pe_callB call_isiT (by rfl) T.isinstance boot_isinstance (pa_cons (pv 0) (pa_cons (pe_tup (pa_cons (pe_bltn (v := .ty "tuple") (by rfl) T.tuple boot_tuple rfl) (pa_cons (pe_bltn (v := .ty "list") (by rfl) T.list boot_list rfl) pa_nil))) pa_nil))))) (pw_or1 (pt_cmpR op_ne (pe_isi T.isinstance T.list boot_list (pv 0)) (pe_isi T.isinstance T.list boot_list (pv 1)) (nomark _))))) (pss_one (ps_ret pe_bl)) pss_nil)
      (pss_cons (ps_if (pt_cmpR op_ne (pe_callB call_len_seq (by rfl) T.len PySem.boot_len (pa_cons (pv 0) pa_nil)) (pe_callB call_len_seq (by rfl) T.len PySem.boot_len (pa_cons (pv 1) pa_nil)) (nomark _)) (pss_one (ps_ret pe_bl)) pss_nil)
      (pss_one (ps_ret (pe_cmpR (op_eqD hr.units) 
        (pe_lc (own := [("_law_k", 2)]) (g := gName 2) rfl sc_law_alike.nd (pi_range1 (by rfl) T.range (pa_cons (pe_callB call_len_seq (by rfl) T.len PySem.boot_len (pa_cons (pv 1) pa_nil)) pa_nil)) (blkOk_by (own := [("_law_k", 2)]) (N := ["_law_found", "_law_due", "_law_k"]) (sc := defScope s_law_alike) (by decide +kernel))
          (fun _ _ _ _ _ => (pg_name (i := 2) sc_law_alike.nd rfl (.inl rfl))) (fun _ _ _ _ _ => (pts_one (pt_not (pt_val (pe_cal C_law_alike (hr.mono (by decide)) (by rfl) (pa_cons (pe_ix (ix_tupK K) (pv 0) (pv 2) (fun _ _ => rfl)) (pa_cons (pe_ix (ix_tupK K) (pv 1) (pv 2) (fun _ _ => rfl)) pa_nil))))))) (fun _ _ _ _ _ => (pv 2))) (pe_lst pa_nil) (nomark _)))))) pss_nil)
      (pss_cons (ps_if (PW.pt (pw_or (pt_cmpR op_isN (pv 1) pe_non (nomark _)) (pw_or1 (pt_val (pe_isi T.isinstance T.str boot_str (pv 1)))))) (pss_one (ps_ret (pe_and (pe_cmpR op_eq (pv 0) (pv 1) (nomark _)) (pe_one (pe_cmpR op_eq (pe_isi T.isinstance T.str boot_str (pv 0)) (pe_isi T.isinstance T.str boot_str (pv 1)) (nomark _)))))) pss_nil)
      (pss_one (ps_ret (pe_and (pe_isi T.isinstance T.int boot_int (pv 0)) (pe_and (pe_cmpR op_eq (pe_isi T.isinstance T.bool boot_bool (pv 0)) (pe_isi T.isinstance T.bool boot_bool (pv 1)) (nomark _)) (pe_one (pe_cmpR op_eq (pv 0) (pv 1) (nomark _)))))))), ?_⟩
    rcases hl with (⟨rfl, rfl⟩ | ⟨i, rfl, rfl⟩) | ⟨a, b, ws, rfl, rfl, ha, hb, few⟩
    · refine ⟨.non, rfl, by show 2 ≤ sizeLine; decide, fun tp ntp => ⟨.non, tp, _, _, _, false, rfl, upd_same, .cons (.ty _) (.cons (.ty _) .nil), .base .non, kit2 (a := false) (b := false) (by decide +kernel) (by decide +kernel), false, rfl, iteF ?_⟩⟩
      refine ⟨.non, rfl, rfl, _, rfl, ite2 (fun _ => iteT ?_) (fun h => absurd (decide_eq_true rfl) h)⟩
      refine ⟨.non, rfl, .non, rfl, rfl, _, rfl, ite2 (fun _ => ?_) (fun h => absurd (decide_eq_true rfl) h)⟩
      refine ⟨.non, rfl, _, _, _, false, rfl, .base .non, by decide +kernel, .non, rfl, _, _, _, false, rfl, .base .non, by decide +kernel, rfl, ?_⟩
      rw [decide_eq_true rfl]
      exact q _ (same_new ntp)
    · refine ⟨.int i, rfl, by show 2 ≤ sizeLine; decide, fun tp ntp => ⟨.int i, tp, _, _, _, false, rfl, upd_same, .cons (.ty _) (.cons (.ty _) .nil), .base (.int i), kit2 (a := false) (b := false) (by decide +kernel) (by decide +kernel), false, rfl, iteF ?_⟩⟩
      refine ⟨.int i, rfl, rfl, _, rfl, ite2 (fun h => nomatch (of_decide_eq_true h)) (fun _ => ?_)⟩
      refine ⟨.int i, rfl, _, _, _, false, rfl, .base (.int i), by decide +kernel, false, rfl, iteF ?_⟩
      refine ⟨.int i, rfl, _, _, _, true, rfl, .base (.int i), by decide +kernel, true, rfl, iteT ?_⟩
      refine ⟨.int i, rfl, _, _, _, false, rfl, .base (.int i), by decide +kernel, .int i, rfl, _, _, _, false, rfl, .base (.int i), by decide +kernel, rfl, _, rfl, ite2 (fun _ => ?_) (fun h => absurd (decide_eq_true rfl) h)⟩
      refine ⟨.int i, rfl, .int i, rfl, rfl, ?_⟩
      rw [decide_eq_true rfl]
      exact q _ (same_new ntp)
    · refine ⟨.ref b, rfl, by show 2 ≤ sizeLine; decide, fun tp ntp => ?_⟩
      have s1 := same_new (o := .tup [.ty "tuple", .ty "list"]) ntp
      refine ⟨.ref b, tp, _, _, _, true, rfl, upd_same, .cons (.ty _) (.cons (.ty _) .nil), .base (.tup (s1 _ _ hb)), kit2 (a := true) (b := false) (by decide +kernel) (by decide +kernel), true, rfl, iteT ?_⟩
      refine ⟨.ref a, rfl, by show 2 ≤ sizeLine; decide, fun tp2 ntp2 => ?_⟩
      have s2 := s1.trans (same_new (o := .tup [.ty "tuple", .ty "list"]) ntp2)
      refine ⟨.ref a, tp2, _, _, _, true, rfl, upd_same, .cons (.ty _) (.cons (.ty _) .nil), .base (.tup (s2 _ _ ha)), kit2 (a := true) (b := false) (by decide +kernel) (by decide +kernel), true, rfl, iteF ?_⟩
      generalize upd (upd H tp (.tup [.ty "tuple", .ty "list"])) tp2 (.tup [.ty "tuple", .ty "list"]) = H2 at s2
      have ha2 := s2 _ _ ha
      have hb2 := s2 _ _ hb
      refine ⟨.ref a, rfl, _, _, _, false, rfl, .base (.tup ha2), by decide +kernel, .ref b, rfl, _, _, _, false, rfl, .base (.tup hb2), by decide +kernel, rfl, _, rfl, ite2 (fun h => ?_) (fun _ => ?_)⟩
      · rw [decide_eq_true rfl] at h
        cases h
      refine ⟨.ref a, rfl, a, _, rfl, .inr (SqT.of ha2), .ref b, rfl, b, _, rfl, .inr (SqT.of hb2), rfl, _, rfl, ite2 (fun h => ?_) (fun _ => ?_)⟩
      · rw [decide_eq_true rfl] at h
        cases h
      refine ⟨.ref b, rfl, b, _, rfl, .inr (SqT.of hb2), _, rfl, by rw [List.length_map]; omega, by rw [List.length_map]; omega, fun L nL => ?_⟩
      rw [List.length_map]
      refine lc_fm walk_lamps (lamps ws.length) V.int (by rw [lamps_len]) (fun i H x H' y => yat_of y) (fun _ => false) (fun _ _ _ => False) nL (by rw [lamps_len]; omega) (fun H2 s2 => trivial)
        (fun _ _ _ _ _ _ e => e) (fun k H3 N hk s3 hL hN1 hN2 => ?_) (fun H3 ys s3 hL pr => ?_)
      · have hk := mem_lamps.1 hk
        obtain ⟨j, rfl⟩ := Int.eq_ofNat_of_zero_le hk.1
        have hj : j < ws.length := by omega
        have e1 : (ws.map V.int)[j]? = some (.int ws[j]) := by rw [List.getElem?_map, List.getElem?_eq_getElem hj]; rfl
        refine ⟨rfl, .ref a, rfl, .int j, rfl, a, _, j, .int ws[j], rfl, rfl, SqT.of (s3 _ _ ha2), atI_nat e1, .ref b, rfl, .int j, rfl, b, _, j, .int ws[j], rfl, rfl, SqT.of (s3 _ _ hb2), atI_nat e1, _, _, rfl, .inr ⟨_, rfl, rfl⟩, fun H4 s4 => ⟨true, rfl, iteF (hN2 rfl _ s4)⟩⟩
      · have ey : ys = [] := by
          have e : (lamps ws.length).filter (fun _ => false) = [] := by simp
          rw [e] at pr
          cases pr
          rfl
        subst ey
        refine ⟨Nat.zero_le _, fun M nM => ?_⟩
        have s4 := same_new (o := .lst []) nM
        refine ⟨.list [], .list [], .lst (SqL.of (s4 _ _ hL)) .nil, .lst (SqL.of upd_same) .nil, rfl, rfl, ?_⟩
        rw [eqv_nil]
        exact q _ ((s2.trans s3).trans s4)
end
end Pl


set_option Elab.async false
set_option linter.all false
set_option maxRecDepth 100000
set_option maxHeartbeats 4000000
namespace Pl
open PySem PySem.Spec PyProof.Rows L2 Pr
theorem lex_same : ∀ a b : List Int, HT.lexLt a b = lexLt a b
  | [], [] => rfl
  | [], _ :: _ => rfl
  | _ :: _, [] => rfl
  | x :: xs, y :: ys => by
    show (if x = y then HT.lexLt xs ys else decide (x < y)) = if x = y then lexLt xs ys else decide (x < y)
    rw [lex_same xs ys]
/-- words of standings, as far as told -/
abbrev Wd := List Int → Option (List Int)
structure LawL (n : Nat) (E : Int → Int → Bool) (S : List Int) (r : Nat) (f : Wd) (R : List (List Int)) : Prop where
  low : ∀ T m, IsDist E S T m → m ≤ r → ∃ w, f T = some w ∧ IsLeast E S T w
  only : ∀ T, f T ≠ none → ∃ m, m ≤ r ∧ IsDist E S T m
  rows : ∀ T, T ∈ R ↔ IsDist E S T r
  nd : R.Nodup
structure LawM (n : Nat) (E : Int → Int → Bool) (S : List Int) (r : Nat) (P : List (List Int × Int)) (f : Wd) (more : List (List Int)) : Prop where
  low : ∀ T m, IsDist E S T m → m ≤ r → ∃ w, f T = some w ∧ IsLeast E S T w
  only : ∀ T, f T ≠ none → ∃ m, m ≤ r + 1 ∧ IsDist E S T m
  new : ∀ T w, IsDist E S T (r + 1) → f T = some w → (∃ p ∈ P, chg p.1 p.2 = T ∧ ∃ u, IsLeast E S p.1 u ∧ w = u ++ [p.2]) ∧ ∀ p ∈ P, chg p.1 p.2 = T → ∀ u, IsLeast E S p.1 u → lexLt (u ++ [p.2]) w = false
  has : ∀ T, IsDist E S T (r + 1) → (f T ≠ none ↔ ∃ p ∈ P, chg p.1 p.2 = T)
  mo : ∀ T, T ∈ more ↔ IsDist E S T (r + 1) ∧ ∃ p ∈ P, chg p.1 p.2 = T
  nd : more.Nodup
def putF (f : Wd) (T : List Int) (w : List Int) : Wd := fun U => if U = T then some w else f U
section
variable {n : Nat} {E : Int → Int → Bool} {S X : List Int} {r : Nat} {k : Int} {f : Wd} {R more : List (List Int)} {P : List (List Int × Int)}
theorem mem_snoc {α : Type} {l : List α} {a : α} {q : α → Prop} : (∃ p ∈ l ++ [a], q p) ↔ (∃ p ∈ l, q p) ∨ q a := by
  constructor
  · rintro ⟨p, hp, h⟩
    rcases List.mem_append.1 hp with hp | hp
    · exact .inl ⟨p, hp, h⟩
    · have : p = a := by simpa using hp
      exact .inr (this ▸ h)
  · rintro (⟨p, hp, h⟩ | h)
    · exact ⟨p, List.mem_append_left _ hp, h⟩
    · exact ⟨a, by simp, h⟩
theorem all_snoc {α : Type} {l : List α} {a : α} {q : α → Prop} : (∀ p ∈ l ++ [a], q p) ↔ (∀ p ∈ l, q p) ∧ q a := by
  constructor
  · intro h
    exact ⟨fun p hp => h p (List.mem_append_left _ hp), h a (by simp)⟩
  · rintro ⟨h1, h2⟩ p hp
    rcases List.mem_append.1 hp with hp | hp
    · exact h1 p hp
    · have : p = a := by simpa using hp
      exact this ▸ h2
theorem lawL_start : LawL n E S 0 (fun U => if U = S then some [] else none) [S] := by
  refine ⟨fun T m h hm => ?_, fun T h => ?_, fun T => ?_, by simp⟩
  · have : m = 0 := by omega
    subst this
    have := dist_zero h
    subst this
    exact ⟨[], if_pos rfl, least_self E S⟩
  · by_cases e : T = S
    · subst e
      exact ⟨0, Nat.le_refl _, dist_self E T⟩
    · exact absurd (if_neg e) h
  · constructor
    · intro h
      have : T = S := by simpa using h
      subst this
      exact dist_self E T
    · intro h
      rw [dist_zero h]
      simp
theorem LawL.begin (L : LawL n E S r f R) : LawM n E S r [] f [] := by
  have no : ∀ T, IsDist E S T (r + 1) → f T = none := fun T hT => Classical.byContradiction fun h => by
    obtain ⟨m, hm, hd⟩ := L.only T h
    have := hd.uniq hT
    omega
  refine ⟨L.low, fun T h => ?_, fun T w hT h => ?_, fun T hT => ?_, fun T => ?_, List.nodup_nil⟩
  · obtain ⟨m, hm, hd⟩ := L.only T h
    exact ⟨m, by omega, hd⟩
  · rw [no T hT] at h
    cases h
  · constructor
    · intro h
      exact absurd (no T hT) h
    · rintro ⟨p, hp, _⟩
      cases hp
  · constructor
    · intro h; cases h
    · rintro ⟨_, p, hp, _⟩
      cases hp
/-- a deed that leads elsewhere -/
theorem LawM.skip (M : LawM n E S r P f more) (h : ¬ IsDist E S (chg X k) (r + 1)) : LawM n E S r (P ++ [(X, k)]) f more := by
  have key : ∀ T, IsDist E S T (r + 1) → chg X k ≠ T := fun T hT e => h (e ▸ hT)
  have ex : ∀ T, IsDist E S T (r + 1) → ((∃ p ∈ P ++ [(X, k)], chg p.1 p.2 = T) ↔ ∃ p ∈ P, chg p.1 p.2 = T) := fun T hT => by
    rw [mem_snoc]
    exact ⟨fun z => z.resolve_right (key T hT), .inl⟩
  refine ⟨M.low, M.only, fun T w hT hw => ?_, fun T hT => ?_, fun T => ?_, M.nd⟩
  · obtain ⟨⟨p, hp, h1⟩, h2⟩ := M.new T w hT hw
    exact ⟨⟨p, List.mem_append_left _ hp, h1⟩, all_snoc.2 ⟨h2, fun e => absurd e (key T hT)⟩⟩
  · rw [ex T hT]
    exact M.has T hT
  · rw [M.mo]
    exact and_congr_right fun hT => (ex T hT).symm
/-- a deed that leads on, and its word is not less -/
theorem LawM.stay (M : LawM n E S r P f more) {u w : List Int} (hu : IsLeast E S X u) (hf : f (chg X k) = some w) (hl : lexLt (u ++ [k]) w = false) (hd : IsDist E S (chg X k) (r + 1)) : LawM n E S r (P ++ [(X, k)]) f more := by
  have old := (M.has _ hd).1 (by rw [hf]; simp)
  have ex : ∀ T, ((∃ p ∈ P ++ [(X, k)], chg p.1 p.2 = T) ↔ ∃ p ∈ P, chg p.1 p.2 = T) := fun T => by
    rw [mem_snoc]
    exact ⟨fun z => z.elim id fun e => e ▸ old, .inl⟩
  refine ⟨M.low, M.only, fun T w' hT hw => ?_, fun T hT => ?_, fun T => ?_, M.nd⟩
  · obtain ⟨⟨p, hp, h1⟩, h2⟩ := M.new T w' hT hw
    refine ⟨⟨p, List.mem_append_left _ hp, h1⟩, all_snoc.2 ⟨h2, fun e u' hu' => ?_⟩⟩
    have e : chg X k = T := e
    subst e
    rw [hf] at hw
    cases hw
    rw [hu'.uniq hu]
    exact hl
  · rw [ex]
    exact M.has T hT
  · rw [M.mo, ex]
/-- .. and its word is new, or less -/
theorem LawM.put (M : LawM n E S r P f more) {u : List Int} (hX : IsDist E S X r) (hu : IsLeast E S X u) (hd : IsDist E S (chg X k) (r + 1)) (hl : ∀ w, f (chg X k) = some w → lexLt (u ++ [k]) w = true) :
    LawM n E S r (P ++ [(X, k)]) (putF f (chg X k) (u ++ [k])) (if f (chg X k) = none then more ++ [chg X k] else more) := by
  have low' : ∀ T m, IsDist E S T m → m ≤ r → T ≠ chg X k := fun T m h hm e => by
    subst e
    have := h.uniq hd
    omega
  refine ⟨fun T m h hm => ?_, fun T h => ?_, fun T w hT hw => ?_, fun T hT => ?_, fun T => ?_, ?_⟩
  · show ∃ w, (if T = chg X k then _ else _) = some w ∧ _
    rw [if_neg (low' T m h hm)]
    exact M.low T m h hm
  · by_cases e : T = chg X k
    · subst e
      exact ⟨r + 1, Nat.le_refl _, hd⟩
    · refine M.only T ?_
      intro z
      apply h
      show (if T = chg X k then _ else _) = none
      rw [if_neg e]
      exact z
  · have hw : (if T = chg X k then some (u ++ [k]) else f T) = some w := hw
    by_cases e : T = chg X k
    · subst e
      rw [if_pos rfl] at hw
      cases hw
      refine ⟨⟨(X, k), by simp, rfl, u, hu, rfl⟩, all_snoc.2 ⟨fun p hp ep u' hu' => ?_, fun _ u' hu' => ?_⟩⟩
      · have ne : f (chg X k) ≠ none := (M.has _ hd).2 ⟨p, hp, ep⟩
        cases hf : f (chg X k) with
        | none => exact absurd hf ne
        | some w0 =>
          have h1 := hl w0 hf
          have h2 := (M.new _ w0 hd hf).2 p hp ep u' hu'
          refine Bool.eq_false_iff.2 fun z => ?_
          have := lex_trans z h1
          rw [h2] at this
          cases this
      · rw [hu'.uniq hu]
        exact lex_irr _
    · rw [if_neg e] at hw
      obtain ⟨⟨p, hp, h1⟩, h2⟩ := M.new T w hT hw
      exact ⟨⟨p, List.mem_append_left _ hp, h1⟩, all_snoc.2 ⟨h2, fun z => absurd z.symm e⟩⟩
  · rw [mem_snoc]
    show (if T = chg X k then some (u ++ [k]) else f T) ≠ none ↔ _
    by_cases e : T = chg X k
    · subst e
      rw [if_pos rfl]
      exact ⟨fun _ => .inr rfl, fun _ z => nomatch z⟩
    · rw [if_neg e, M.has T hT]
      exact ⟨.inl, fun z => z.resolve_right fun z => e z.symm⟩
  · rw [mem_snoc]
    have key : T ∈ more ∨ T = chg X k ↔ IsDist E S T (r + 1) ∧ ((∃ p ∈ P, chg p.1 p.2 = T) ∨ chg X k = T) := by
      rw [M.mo]
      constructor
      · rintro (h | h)
        · exact ⟨h.1, .inl h.2⟩
        · subst h
          exact ⟨hd, .inr rfl⟩
      · rintro ⟨h1, h | h⟩
        · exact .inl ⟨h1, h⟩
        · exact .inr h.symm
    split
    · rw [List.mem_append, ← key]
      simp
    · rename_i ne
      rw [← key]
      refine ⟨.inl, fun z => z.elim id fun e => ?_⟩
      subst e
      exact (M.mo _).2 ⟨hd, (M.has _ hd).1 ne⟩
  · split
    · rename_i e
      refine nd_snoc M.nd fun hm => ?_
      have := (M.has _ hd).2 ((M.mo _).1 hm).2
      exact this e
    · exact M.nd
theorem LawM.done (W : WebOk n E) (hS : St n S) (L : LawL n E S r f R) {f' : Wd} (M : LawM n E S r (pairs n E R) f' more) : LawL n E S (r + 1) f' more := by
  have all : ∀ T, IsDist E S T (r + 1) → ∃ p ∈ pairs n E R, chg p.1 p.2 = T := fun T hT => by
    obtain ⟨X, k, h1, h2, h3⟩ := dist_pred hT
    exact ⟨(X, k), (mem_pairs W).2 ⟨(L.rows X).2 h1, h2⟩, h3⟩
  refine ⟨fun T m h hm => ?_, M.only, fun T => ?_, M.nd⟩
  · by_cases e : m ≤ r
    · exact M.low T m h e
    · have e : m = r + 1 := by omega
      subst e
      cases hf : f' T with
      | none => exact absurd hf ((M.has T h).2 (all T h))
      | some w =>
        refine ⟨w, rfl, ?_⟩
        obtain ⟨⟨p, hp, e1, u, hu, e2⟩, h2⟩ := M.new T w h hf
        obtain ⟨hp1, hp2⟩ := (mem_pairs W).1 hp
        refine least_next h ⟨p.1, p.2, u, (L.rows _).1 hp1, hp2, e1, hu, e2⟩ fun X k hX hk ek => ?_
        obtain ⟨v, _, hv⟩ := M.low X r hX (Nat.le_refl _)
        exact ⟨v, hv, h2 (X, k) ((mem_pairs W).2 ⟨(L.rows X).2 hX, hk⟩) ek v hv⟩
  · rw [M.mo]
    exact ⟨fun h => h.1, fun h => ⟨h, all T h⟩⟩
theorem LawL.end_ (L : LawL n E S r f []) : (∀ T, Reach E S T → ∃ w, f T = some w ∧ IsLeast E S T w) ∧ ∀ T, ¬ Reach E S T → f T = none := by
  refine ⟨fun T h => ?_, fun T h => ?_⟩
  · obtain ⟨m, hm⟩ := dist_of_reach h
    refine L.low T m hm (Nat.le_of_not_lt fun z => ?_)
    obtain ⟨X, hX⟩ := dist_below hm (Nat.le_of_lt z)
    cases (L.rows X).2 hX
  · refine Classical.byContradiction fun z => ?_
    obtain ⟨m, _, hd⟩ := L.only T z
    exact h hd.reach
end
/-! ### the counts -/
structure CntL (n : Nat) (E : Int → Int → Bool) (S : List Int) (r : Nat) (kvs : Kvs) : Prop where
  get : ∀ T v, valV kvs (ky T) = some v ↔ ∃ m, m ≤ r ∧ IsDist E S T m ∧ v = .int (cnt n E S m T)
  keys : KeysOk n E S kvs
structure CntM (n : Nat) (E : Int → Int → Bool) (S : List Int) (r : Nat) (P : List (List Int × Int)) (kvs : Kvs) : Prop where
  get : ∀ T v, valV kvs (ky T) = some v ↔ (∃ m, m ≤ r ∧ IsDist E S T m ∧ v = .int (cnt n E S m T)) ∨ (IsDist E S T (r + 1) ∧ (∃ p ∈ P, chg p.1 p.2 = T) ∧ v = .int (psum (cnt n E S r) P T))
  keys : KeysOk n E S kvs
section
variable {n : Nat} {E : Int → Int → Bool} {S X : List Int} {r : Nat} {k : Int} {kvs : Kvs} {R : List (List Int)} {P : List (List Int × Int)}
theorem cntL_start (hS : St n S) : CntL n E S 0 [(ky S, .int 1)] := by
  refine ⟨fun X v => ?_, keys_one hS⟩
  have e1 : cnt n E S 0 S = 1 := by unfold cnt; rw [if_pos rfl]
  by_cases e : S = X
  · subst e
    rw [valV_pos (p := (ky S, V.int 1)) rfl]
    constructor
    · intro h
      exact ⟨0, Nat.le_refl _, dist_self E S, by rw [e1]; exact (Option.some.inj h).symm⟩
    · rintro ⟨m, hm, _, rfl⟩
      have : m = 0 := by omega
      subst this
      rw [e1]
  · rw [valV_neg (p := (ky S, V.int 1)) (fun z => e (ky_inj z)), valV_nil]
    constructor
    · intro h; cases h
    · rintro ⟨m, hm, hd, _⟩
      have : m = 0 := by omega
      subst this
      exact absurd (dist_zero hd) e
theorem CntL.begin (C : CntL n E S r kvs) : CntM n E S r [] kvs := by
  refine ⟨fun T v => ?_, C.keys⟩
  rw [C.get]
  refine ⟨.inl, fun z => z.elim id ?_⟩
  rintro ⟨_, ⟨p, hp, _⟩, _⟩
  cases hp
theorem CntM.skip (C : CntM n E S r P kvs) (h : ¬ IsDist E S (chg X k) (r + 1)) : CntM n E S r (P ++ [(X, k)]) kvs := by
  refine ⟨fun T v => ?_, C.keys⟩
  rw [C.get, mem_snoc, psum_snoc]
  by_cases e : chg X k = T
  · subst e
    exact or_congr Iff.rfl ⟨fun z => absurd z.1 h, fun z => absurd z.1 h⟩
  · rw [if_neg e, Int.add_zero]
    exact or_congr Iff.rfl (and_congr_right fun _ => and_congr_left fun _ => ⟨.inl, fun z => z.resolve_right e⟩)
theorem CntM.or (C : CntM n E S r P kvs) {T : List Int} (h : IsDist E S T (r + 1)) : (valV kvs (ky T)).getD (.int 0) = .int (psum (cnt n E S r) P T) := by
  cases hv : valV kvs (ky T) with
  | some v =>
    rcases (C.get T v).1 hv with ⟨m, hm, hd, _⟩ | ⟨_, _, e⟩
    · have := hd.uniq h
      omega
    · exact e
  | none =>
    rw [psum_zero fun p hp e => ?_]
    · rfl
    · have := (C.get T _).2 (.inr ⟨h, ⟨p, hp, e⟩, rfl⟩)
      rw [hv] at this
      cases this
theorem CntM.put (C : CntM n E S r P kvs) (h : IsDist E S (chg X k) (r + 1)) (st : St n (chg X k)) : CntM n E S r (P ++ [(X, k)]) (putK kvs (ky (chg X k)) (.int (psum (cnt n E S r) P (chg X k) + cnt n E S r X))) := by
  refine ⟨fun T v => ?_, C.keys.put st h.reach⟩
  rw [valV_put, mem_snoc, psum_snoc]
  by_cases e : T = chg X k
  · subst e
    rw [if_pos rfl, if_pos rfl]
    constructor
    · intro z
      exact .inr ⟨h, .inr rfl, (Option.some.inj z).symm⟩
    · rintro (⟨m, hm, hd, _⟩ | ⟨_, _, rfl⟩)
      · have := hd.uniq h
        omega
      · rfl
  · rw [if_neg (fun z => e (ky_inj z)), if_neg (fun z => e z.symm), Int.add_zero, C.get]
    exact or_congr Iff.rfl (and_congr_right fun _ => and_congr_left fun _ => ⟨.inl, fun z => z.resolve_right fun z => e z.symm⟩)
theorem CntM.done (W : WebOk n E) (hS : St n S) (nd : R.Nodup) (rows : ∀ T, T ∈ R ↔ IsDist E S T r) (C : CntM n E S r (pairs n E R) kvs) : CntL n E S (r + 1) kvs := by
  refine ⟨fun T v => ?_, C.keys⟩
  rw [C.get]
  constructor
  · rintro (⟨m, hm, hd, e⟩ | ⟨hd, _, e⟩)
    · exact ⟨m, by omega, hd, e⟩
    · exact ⟨r + 1, Nat.le_refl _, hd, by rw [cnt_from W hS nd rows hd]; exact e⟩
  · rintro ⟨m, hm, hd, e⟩
    by_cases q : m ≤ r
    · exact .inl ⟨m, q, hd, e⟩
    · have q : m = r + 1 := by omega
      subst q
      refine .inr ⟨hd, ?_, by rw [← cnt_from W hS nd rows hd]; exact e⟩
      obtain ⟨X, k, h1, h2, h3⟩ := dist_pred hd
      exact ⟨(X, k), (mem_pairs W).2 ⟨(rows X).2 h1, h2⟩, h3⟩
theorem CntL.end_ (C : CntL n E S r kvs) (rows : ∀ T, ¬ IsDist E S T r) : ∀ T v, valV kvs (ky T) = some v ↔ ∃ m, IsDist E S T m ∧ v = .int (cnt n E S m T) := fun T v => by
  rw [C.get]
  constructor
  · rintro ⟨m, _, h⟩
    exact ⟨m, h⟩
  · rintro ⟨m, hd, e⟩
    refine ⟨m, Nat.le_of_not_lt fun z => ?_, hd, e⟩
    obtain ⟨X, hX⟩ := dist_below hd (Nat.le_of_lt z)
    exact rows X hX
end
/-! ### the words in the heap -/
structure WAt (n : Nat) (E : Int → Int → Bool) (S : List Int) (H : Hp) (kvs : Kvs) (f : Wd) : Prop where
  no : ∀ T, valV kvs (ky T) = none ↔ f T = none
  at_ : ∀ T w, f T = some w → ∃ p, valV kvs (ky T) = some (.ref p) ∧ TI H p w
  keys : KeysOk n E S kvs
section
variable {n : Nat} {E : Int → Int → Bool} {S : List Int} {H H' : Hp} {kvs : Kvs} {f : Wd}
theorem WAt.keep (h : WAt n E S H kvs f) (t : Tups H H') : WAt n E S H' kvs f := ⟨h.no, fun T w e => let ⟨p, h1, h2⟩ := h.at_ T w e; ⟨p, h1, t _ _ h2⟩, h.keys⟩
theorem WAt.put (h : WAt n E S H kvs f) {T w : List Int} {p : Addr} (hp : TI H p w) (st : St n T) (hr : Reach E S T) : WAt n E S H (putK kvs (ky T) (.ref p)) (putF f T w) := by
  refine ⟨fun U => ?_, fun U v hv => ?_, h.keys.put st hr⟩
  · rw [valV_put]
    show _ ↔ (if U = T then some w else f U) = none
    by_cases e : U = T
    · subst e
      rw [if_pos rfl, if_pos rfl]
      simp
    · rw [if_neg (fun z => e (ky_inj z)), if_neg e]
      exact h.no U
  · have hv : (if U = T then some w else f U) = some v := hv
    rw [valV_put]
    by_cases e : U = T
    · subst e
      rw [if_pos rfl] at hv ⊢
      cases hv
      exact ⟨p, rfl, hp⟩
    · rw [if_neg e] at hv
      rw [if_neg (fun z => e (ky_inj z))]
      exact h.at_ U v hv
theorem wat_start {q : Addr} (hS : St n S) (hq : TI H q []) : WAt n E S H [(ky S, .ref q)] (fun U => if U = S then some [] else none) := by
  refine ⟨fun T => ?_, fun T w hw => ?_, keys_one hS⟩
  · by_cases e : S = T
    · subst e
      rw [valV_pos (p := (ky S, V.ref q)) rfl, if_pos rfl]
      simp
    · rw [valV_neg (p := (ky S, V.ref q)) (fun z => e (ky_inj z)), valV_nil, if_neg fun z => e z.symm]
      simp
  · by_cases e : T = S
    · subst e
      rw [if_pos rfl] at hw
      cases hw
      exact ⟨q, valV_pos (p := (ky T, V.ref q)) rfl, hq⟩
    · rw [if_neg e] at hw
      cases hw
end
end Pl


set_option Elab.async false
set_option linter.all false
set_option maxRecDepth 100000
set_option maxHeartbeats 4000000
namespace Pl
open PySem PySem.Spec PyProof.Rows L2 Pr
abbrev s_law : Stmt := topS 38
theorem sc_law : FnScope ["_law_script", "_law_row", "_law_web_here", "_law_burning_here", "_law_known", "_law_words", "_law_counts", "_law_rows", "_law_more", "_law_here", "_law_lamp", "_law_there", "_law_other"] ["_law_script"] (defScope s_law) := ⟨rfl, rfl, rfl, by decide +kernel, rfl, by decide +kernel, by decide +kernel⟩
theorem catA_of {K : PySem.W.Frag} {H : Hp} {a b : Addr} {u : List Int} {k : Int} {Q : VK} (ha : TI H a u) (hb : TI H b [k]) (few : u.length ≤ 100) (q : ∀ H' p, Same H H' → TI H' p (u ++ [k]) → Q (.ref p) H') : rCatA K (.ref a) (.ref b) H Q := by
  refine ⟨a, b, u.map V.int, [.int k], rfl, rfl, SqT.of ha, SqT.of hb, small (by simp; omega), fun e => ?_, fun _ e => by simp at e, fun e _ p2 n2 => ?_⟩
  · have e : u = [] := by simpa using e
    subst e
    exact q _ b (Same.refl _) hb
  · refine q _ p2 (same_new n2) ?_
    show upd _ _ _ p2 = _
    rw [upd_same, List.map_append]
    rfl
theorem refs_ne {H : Hp} {pd M : Addr} {cs : List (Addr × Addr × Int)} {mo : List (Addr × List Int)} {j : Nat} {c : Addr × Addr × Int} (hd : H pd = some (.lst (cs.map fun c => V.ref c.1))) (hm : Rw H M mo) (hj : cs[j]? = some c) (hc : H c.1 = some (.tup [.int c.2.2, .ref c.2.1])) : pd ≠ M := fun e => by
  have e1 : H M = some (.lst (cs.map fun c => V.ref c.1)) := e ▸ hd
  rw [hm.1] at e1
  injection e1 with e1
  injection e1 with e1
  have e2 := congrArg (·[j]?) e1
  simp only [List.getElem?_map, hj] at e2
  cases e3 : mo[j]? with
  | none => rw [e3] at e2; cases e2
  | some z =>
    rw [e3] at e2
    injection e2 with e2
    injection e2 with e2
    have e4 : H z.1 = _ := hm.2 z (List.mem_of_getElem? e3)
    rw [e2, hc] at e4
    injection e4 with e4
    injection e4 with e4
    cases hz : z.2 with
    | nil => rw [hz] at e4; cases e4
    | cons x r =>
      rw [hz] at e4
      cases r with
      | nil => cases e4
      | cons x r => cases e4
theorem pick_keys {K : PySem.W.Frag} {H : Hp} {r sa d1 : Addr} {ns : List Int} {kvs : Kvs} {Ss : List (List Int)} {Q : VK} {E : XK} (R : RowAt K H r sa ns) (hd : H d1 = some (.dT kvs)) (eS : kvs.map (·.1) = Ss.map ky) (neS : (∀ T ∈ Ss, T ≠ []) ∨ Ss = [[]])
    (ne : Ss ≠ []) (few : Ss.length ≤ 64) (q : ∀ H' o U, SameBut r H H' → RowAt K H' r sa ns → TI H' o U → U ∈ Ss → Q (.ref o) H') {kp : Addr} (nkp : H kp = none) : rSortedKeysT [.ref kp] (upd H kp (keysO d1 kp)) fun x H2 => sp_law_pick K [.ref r, x] H2 Q E := by
  have s1 := same_new (o := keysO d1 kp) nkp
  refine ⟨kp, d1, kvs, Ss, rfl, upd_same, s1 _ _ hd, eS, neS, fun ys l eys hys nl => ?_⟩
  have s2 := same_new (o := .lst ys) nl
  have R2 := R.same (s1.trans s2)
  obtain ⟨_, _, _, _, hr⟩ := R.at_
  have lr : l ≠ r := (ne_of_none (s1 _ _ hr) nl).symm
  refine ⟨r, sa, ns, l, ys, rfl, R2, upd_same, lr, fun e => ne ?_, by omega, fun H' x b R' hx => ?_⟩
  · subst e
    exact List.eq_nil_of_length_eq_zero eys.symm
  · obtain ⟨o, U, rfl, hU, ho⟩ := hys x hx
    have ho2 := s2 _ _ ho
    refine q H' o U ((same_but (s1.trans s2) r).trans b) R' (b _ _ ho2 ?_) hU
    exact ne_of ho2 (s2 _ _ (s1 _ _ hr)) fun z => nomatch z
section
variable {P : Program} {w : World} {K : PySem.W.Frag} {mg : Str → Option Value} {base : Heap}
def sp_law (K : PySem.W.Frag) : Sp := fun vs H Q _ => ∃ (a : Addr) (ns : List Int), vs = [.ref a] ∧ SqL K H a (ns.map V.int) ∧ ns.length ≤ 63 ∧ ∀ H', Q (.bl true) H'
theorem ok_law {fa : Addr} {fda : FuncData} (T : Bi mg) (F0 : Fun K "law" "law" s_law fa fda) (C_way_between : Cal P w K mg base 6 "way_between" ["web", "one", "other"] sp_way_between) (C_ways_count : Cal P w K mg base 6 "ways_count" ["web", "one", "other"] sp_ways_count) (C_law_pick : Cal P w K mg base 2 "_law_pick" ["_law_row", "_law_things"] (sp_law_pick K)) (C_law_web : Cal P w K mg base 3 "_law_web" ["_law_row", "_law_most"] (sp_law_web K)) (C_law_burning : Cal P w K mg base 3 "_law_burning" ["_law_row", "_law_many"] (sp_law_burning K))
    (C_law_after : Cal P w K mg base 2 "_law_after" ["_law_web_here", "_law_burning_here"] sp_law_after) (C_law_from : Cal P w K mg base 3 "_law_from" ["_law_web_here", "_law_burning_here"] sp_steps_from) (C_law_alike : Cal P w K mg base 2 "_law_alike" ["_law_found", "_law_due"] sp_alike) : FnOk P w K mg base CX0 7 fa fda ["_law_script"] (sp_law K) := by
  refine F0.ok sc_law (fun vs H Q E h => ?_) (fun cdv A0 outer s H vs Q E hr h => ?_)
  · obtain ⟨a, ns, rfl, _⟩ := h
    rfl
  · obtain ⟨sa, ns, rfl, hsc, hlen, q⟩ := h
    have hu := hu_of hr
    refine ⟨_, pss_cons (ps_set (i := 1) sc_law.nd rfl (.inl rfl) (pe_lst (pa_cons (pv 0) (pa_cons pe_int (pa_cons pe_int (pa_cons pe_int pa_nil))))))
      (pss_cons (ps_set (i := 2) sc_law.nd rfl (.inl rfl) (pe_cal C_law_web (hr.mono (by decide)) (by rfl) (pa_cons (pv 1) (pa_cons pe_int pa_nil))))
      (pss_cons (ps_set (i := 3) sc_law.nd rfl (.inl rfl) (pe_cal C_law_burning (hr.mono (by decide)) (by rfl) (pa_cons (pv 1) (pa_cons (pe_ix ix_tup (pv 2) pe_int (fun _ _ => rfl)) pa_nil))))
      (pss_cons (ps_asg (pe_tup (pa_cons (pe_cal C_law_from (hr.mono (by decide)) (by rfl) (pa_cons (pv 2) (pa_cons (pv 3) pa_nil))) (pa_cons (pe_disp1T hu (pv 3) (pe_tup pa_nil)) (pa_cons (pe_disp1T hu (pv 3) pe_int) (pa_cons (pe_lst (pa_cons (pv 3) pa_nil)) pa_nil))))) (pg_tup rfl (pgs_cons (pg_name (i := 4) sc_law.nd rfl (.inl rfl)) (pgs_cons (pg_name (i := 5) sc_law.nd rfl (.inl rfl)) (pgs_cons (pg_name (i := 6) sc_law.nd rfl (.inl rfl)) (pgs_cons (pg_name (i := 7) sc_law.nd rfl (.inl rfl)) pgs_nil))))))
      (pss_cons (ps_while PassesOwn.never (pt_cmpR (op_neD hr.units) (pv 7) (pe_lst pa_nil) (nomark _)) (pss_cons (ps_set (i := 8) sc_law.nd rfl (.inl rfl) (pe_lst pa_nil))
      (pss_cons (ps_for PassesOwn.never rfl (pi_list (pv 7)) (pg_name (i := 9) sc_law.nd rfl (.inl rfl))
      (pss_one (ps_for PassesOwn.never rfl (pi_list (pe_cal C_law_after (hr.mono (by decide)) (by rfl) (pa_cons (pv 2) (pa_cons (pv 9) pa_nil)))) (pg_tup rfl (pgs_cons (pg_name (i := 10) sc_law.nd rfl (.inl rfl)) (pgs_cons (pg_name (i := 11) sc_law.nd rfl (.inl rfl)) pgs_nil)))
      (pss_one (ps_if (pt_cmpR op_eq (pe_dget hu (pv 4) (pv 11) (fun _ _ => rfl)) (pe_op op_add (pe_dget hu (pv 4) (pv 9) (fun _ _ => rfl)) pe_int) (nomark _)) (pss_cons (ps_if (pt_cmp (pc_dnotin hu (pv 11) (pv 5))) (pss_one (ps_expr (pe_bm PySem.F.plainAttrs_list PySem.F.slot_list_append PySem.F.type_list_append mt_append (pv 8) (pa_cons (pv 11) pa_nil)))) pss_nil)
      (pss_cons (ps_if (PW.pt (pw_or (pt_cmp (pc_dnotin hu (pv 11) (pv 5))) (pw_or1 (pt_cmpR (op_ltT hr.units0) (pe_op op_catA (pe_dget hu (pv 5) (pv 9) (fun _ _ => rfl)) (pe_tup (pa_cons (pv 10) pa_nil))) (pe_dget hu (pv 5) (pv 11) (fun _ _ => rfl)) (nomark _))))) (pss_one (ps_dput hu (pv 5) (pv 11) (pe_op op_catA (pe_dget hu (pv 5) (pv 9) (fun _ _ => rfl)) (pe_tup (pa_cons (pv 10) pa_nil))) rfl)) pss_nil)
      (pss_one (ps_dput hu (pv 6) (pv 11) (pe_op op_add (pe_dget2 hu (pv 6) (pv 11) pe_int ⟨rfl, rfl, rfl, rfl⟩) (pe_dget hu (pv 6) (pv 9) (fun _ _ => rfl))) rfl)))) pss_nil)))))
      (pss_one (ps_set (i := 7) sc_law.nd rfl (.inl rfl) (pv 8))))))
      (pss_cons (ps_for PassesOwn.never rfl (pi_list (pe_lst (pa_cons (pe_cal C_law_burning (hr.mono (by decide)) (by rfl) (pa_cons (pv 1) (pa_cons (pe_ix ix_tup (pv 2) pe_int (fun _ _ => rfl)) pa_nil))) (pa_cons (pe_cal C_law_pick (hr.mono (by decide)) (by rfl) (pa_cons (pv 1) (pa_cons (pe_callB (cr_sortedKeysT rfl hr.units) (by rfl) T.sorted boot_sorted (pa_cons (pe_bm0 PySem.F.plainAttrs_dict PySem.F.slot_dict_keys PySem.F.type_dict_keys mt_keysT (pv 4)) pa_nil)) pa_nil))) (pa_cons (pe_cal C_law_pick (hr.mono (by decide)) (by rfl) (pa_cons (pv 1) (pa_cons (pe_callB (cr_sortedKeysT rfl hr.units) (by rfl) T.sorted boot_sorted (pa_cons (pe_bm0 PySem.F.plainAttrs_dict PySem.F.slot_dict_keys PySem.F.type_dict_keys mt_keysT (pv 4)) pa_nil)) pa_nil))) pa_nil))))) (pg_name (i := 12) sc_law.nd rfl (.inl rfl))
      (pss_cons (ps_if (pt_not (pt_val (pe_cal C_law_alike (hr.mono (by decide)) (by rfl) (pa_cons (pe_cal C_way_between (hr.mono (by decide)) (by rfl) (pa_cons (pv 2) (pa_cons (pv 3) (pa_cons (pv 12) pa_nil)))) (pa_cons (pe_dget2 hu (pv 5) (pv 12) pe_non ⟨rfl, rfl, rfl, rfl⟩) pa_nil))))) (pss_one (ps_ret pe_bl)) pss_nil)
      (pss_one (ps_if (pt_not (pt_val (pe_cal C_law_alike (hr.mono (by decide)) (by rfl) (pa_cons (pe_cal C_ways_count (hr.mono (by decide)) (by rfl) (pa_cons (pv 2) (pa_cons (pv 3) (pa_cons (pv 12) pa_nil)))) (pa_cons (pe_dget2 hu (pv 6) (pv 12) pe_int ⟨rfl, rfl, rfl, rfl⟩) pa_nil))))) (pss_one (ps_ret pe_bl)) pss_nil))))
      (pss_one (ps_ret pe_bl))))))), ?_⟩
    refine ⟨.ref sa, rfl, by show 4 ≤ sizeLine; decide, fun r nr => ?_⟩
    have R1 : RowAt K (upd H r (.lst [.ref sa, .int 0, .int 9113, .int 0])) r sa ns := ⟨⟨0, 9113, 0, Int.le_refl _, upd_same⟩, (same_new nr).seq hsc, hlen⟩
    generalize upd H r (.lst [.ref sa, .int 0, .int 9113, .int 0]) = H1 at R1 ⊢
    refine ⟨.ref r, rfl, r, sa, ns, rfl, R1, fun H2 wa n A b2 R2 W2 lx => ?_⟩
    obtain ⟨wt, hwa, _⟩ := W2.at_
    refine ⟨.ref r, rfl, .ref wa, rfl, wa, _, 0, .int n, rfl, rfl, SqT.of hwa, atI_nat (j := 0) rfl, r, sa, ns, n, rfl, R2, W2.n6, fun H3 b S b3 R3 hb hS => ?_⟩
    have W3 : WebAt H3 wa n A := by
      obtain ⟨_, _, _, _, h1⟩ := R2.at_
      exact W2.but h1 b3
    have h6 := W3.n6
    refine ⟨.ref wa, rfl, .ref b, rfl, wa, b, n, A, S, rfl, W3, hb, hS, fun H4 d1 kvs s4 hd1 told => ?_⟩
    have W4 := W3.same s4
    have R4 := R3.same s4
    have hb4 := s4 _ _ hb
    clear W3 R3 hb s4 W2 R2 R1 b2 b3 hwa
    refine fun d2 nd2 => ⟨.ref b, rfl, Nat.zero_le _, fun q0 nq0 => ?_⟩
    have sa1 := same_new (o := .dT []) nd2
    have sa2 := sa1.trans (same_new (o := .tup []) nq0)
    refine ⟨b, ky S, rfl, ti_ky (sa2 _ _ hb4), same_new nq0 _ _ upd_same, ?_⟩
    have nd2q : q0 ≠ d2 := (ne_of_none (show upd H4 d2 (.dT []) d2 = some _ from upd_same) nq0).symm
    have s5 : Same H4 (upd (upd (upd H4 d2 (.dT [])) q0 (.tup [])) d2 (.dT [(ky S, .ref q0)])) := fun bb o e => by
      rw [upd_ne (ne_of_none e nd2)]
      exact sa2 _ _ e
    have w5 : upd (upd (upd H4 d2 (.dT [])) q0 (.tup [])) d2 (.dT [(ky S, .ref q0)]) d2 = some (.dT [(ky S, .ref q0)]) := upd_same
    have q5 : TI (upd (upd (upd H4 d2 (.dT [])) q0 (.tup [])) d2 (.dT [(ky S, .ref q0)])) q0 [] := by
      show upd _ _ _ q0 = _
      rw [upd_ne nd2q]
      exact upd_same
    generalize upd (upd (upd H4 d2 (.dT [])) q0 (.tup [])) d2 (.dT [(ky S, .ref q0)]) = H5 at s5 w5 q5
    clear sa1 sa2 nq0 nd2q
    refine fun d3 nd3 => ⟨.ref b, rfl, b, ky S, rfl, ti_ky (same_new nd3 _ _ (s5 _ _ hb4)), upd_same, ?_⟩
    rw [upd_upd]
    have sb := same_new (o := .dT [(ky S, .int 1)]) nd3
    have s6 := s5.trans sb
    have w6 := sb _ _ w5
    have q6 := sb _ _ q5
    have c6 : upd H5 d3 (.dT [(ky S, .int 1)]) d3 = some (.dT [(ky S, .int 1)]) := upd_same
    have n23 : d2 ≠ d3 := ne_of_none w5 nd3
    have nd3 : H4 d3 = none := Same.free s5 nd3
    generalize upd H5 d3 (.dT [(ky S, .int 1)]) = H6 at s6 w6 q6 c6 sb
    clear s5 sb w5 q5
    refine ⟨.ref b, rfl, by show 1 ≤ sizeLine; decide, fun l nl => ⟨by show 4 ≤ sizeLine; decide, fun tp ntp => ⟨tp, _, rfl, SqT.of upd_same, rfl, _, _, rfl, _, _, rfl, _, _, rfl, _, _, rfl, rfl, ?_⟩⟩⟩
    have sc1 := (same_new (o := .lst [.ref b]) nl).trans (same_new (o := .tup [.ref d1, .ref d2, .ref d3, .ref l]) ntp)
    have s7 := s6.trans sc1
    have w7 := sc1 _ _ w6
    have q7 := sc1 _ _ q6
    have c7 := sc1 _ _ c6
    have r7 : Rw (upd (upd H6 l (.lst [.ref b])) tp (.tup [.ref d1, .ref d2, .ref d3, .ref l])) l [(b, S)] := ⟨same_new ntp _ _ upd_same, fun p hp => by
      have : p = (b, S) := by simpa using hp
      subst this
      exact s7 _ _ hb4⟩
    generalize upd (upd H6 l (.lst [.ref b])) tp (.tup [.ref d1, .ref d2, .ref d3, .ref l]) = H7 at s7 w7 q7 c7 r7
    clear sc1 w6 q6 c6 s6 ntp nl
    have Wd0 := wat_start (E := arr A) hS q7
    refine ⟨fun m σ H3 => ∃ (l : Addr) (bs : List (Addr × List Int)) (g : Nat) (wk ck : Kvs) (f : Wd) (y8 y9 y10 y11 : Option V), σ = [some (.ref sa), some (.ref r), some (.ref wa), some (.ref b), some (.ref d1), some (.ref d2), some (.ref d3), some (.ref l), y8, y9, y10, y11, none] ∧
        Same H4 H3 ∧ H3 d2 = some (.dT wk) ∧ H3 d3 = some (.dT ck) ∧ Rw H3 l bs ∧ WAt n (arr A) S H3 wk f ∧ LawL n (arr A) S g f (bs.map (·.2)) ∧ CntL n (arr A) S g ck ∧ m = (if bs = [] then 0 else 65 - g),
      ⟨_, l, [(b, S)], 0, _, _, _, none, none, none, none, rfl, s7, w7, c7, r7, Wd0, lawL_start, cntL_start hS, rfl⟩, fun m σ H8 ⟨l, bs, g, wk, ck, f, y8, y9, y10, y11, e, s8, w8, c8, r8, V8, L8, C8, hm⟩ => ?_⟩
    subst e hm
    clear s7 w7 q7 c7 r7 Wd0
    -- while rows != []
    refine ⟨.ref l, rfl, Nat.zero_le _, fun M0 nM0 => ?_⟩
    have t0 := same_new (o := .lst []) nM0
    refine ⟨.list (bs.map fun p => tupD p.2), .list [], .lst (SqL.of (t0 _ _ r8.1)) (dpAll_tups fun p hp => t0 _ _ (r8.2 p hp)), .lst (SqL.of upd_same) .nil, shaped_lt bs, rfl, _, rfl, ?_⟩
    rw [eqv_nil, List.isEmpty_map]
    have s9 := s8.trans t0
    have w9 := t0 _ _ w8
    have c9 := t0 _ _ c8
    have r9 := r8.keep (tups_same t0) fun _ e => t0 _ _ e
    have V9 := V8.keep (tups_same t0)
    generalize upd H8 M0 (.lst []) = H9 at t0 s9 w9 c9 r9 V9
    clear s8 w8 c8 r8 V8 nM0 t0
    cases hb0 : bs with
    | nil =>
      subst hb0
      refine iteF ?_
      have rows0 : ∀ T, ¬ IsDist (arr A) S T g := fun T h => by cases (L8.rows T).2 h
      obtain ⟨fr, fno⟩ := LawL.end_ L8
      have ce := C8.end_ rows0
      have R9 := R4.same s9
      have W9 := W4.same s9
      obtain ⟨wt, hwa, _⟩ := W9.at_
      have hb9 := s9 _ _ hb4
      have hd9 := s9 _ _ hd1
      obtain ⟨ir, zr, qr, _, hr9⟩ := R9.at_
      obtain ⟨Ss, eS, ndS, mS⟩ := told.keys
      have inS : S ∈ Ss := (mem_keys eS S).2 ⟨_, (told.get S _).2 ⟨0, rfl, dist_self _ S⟩⟩
      have neS : (∀ T ∈ Ss, T ≠ []) ∨ Ss = [[]] := by
        by_cases e : S = []
        · subst e
          have all : ∀ T ∈ Ss, T = [] := fun T hT => by
            obtain ⟨w, hw⟩ := (mS T hT).2
            exact leads_nil hw
          right
          cases Ss with
          | nil => cases inS
          | cons T t =>
            have e1 := all T List.mem_cons_self
            subst e1
            cases t with
            | nil => rfl
            | cons U t =>
              have e2 := all U (by simp)
              subst e2
              simp at ndS
        · left
          intro T hT eT
          obtain ⟨m, hm⟩ := dist_of_reach (mS T hT).2
          exact dist_ne W4.ok hS e hm eT
      have lSs : Ss.length ≤ 64 := st_count6 h6 ndS fun T hT => (mS T hT).1
      -- the three others
      refine ⟨.ref r, rfl, .ref wa, rfl, wa, _, 0, .int n, rfl, rfl, SqT.of hwa, atI_nat (j := 0) rfl, r, sa, ns, n, rfl, R9, h6, fun H10 o1 U1 b10 R10 ho1 hU1 => ?_⟩
      have hd10 := b10 _ _ hd9 (ne_of hd9 hr9 fun z => nomatch z)
      refine ⟨.ref r, rfl, .ref d1, rfl, .inr (.inr (.inl ⟨rfl, .inr ⟨kvs, hd10⟩⟩)), d1, kvs, rfl, rfl, hd10, fun kp nkp => pick_keys (E := E) R10 hd10 eS neS (fun e => by rw [e] at inS; cases inS) lSs (fun H11 o2 U2 b11 R11 ho2 hU2 => ?_) nkp⟩
      have b911 := b10.trans b11
      have hd11 := b911 _ _ hd9 (ne_of hd9 hr9 fun z => nomatch z)
      refine ⟨.ref r, rfl, .ref d1, rfl, .inr (.inr (.inl ⟨rfl, .inr ⟨kvs, hd11⟩⟩)), d1, kvs, rfl, rfl, hd11, fun kp2 nkp2 => pick_keys (E := E) R11 hd11 eS neS (fun e => by rw [e] at inS; cases inS) lSs (fun H12 o3 U3 b12 R12 ho3 hU3 => ?_) nkp2⟩
      have b912 := b911.trans b12
      refine ⟨by show 3 ≤ sizeLine; decide, fun ol nol => ?_⟩
      have s13 := same_new (o := .lst [.ref o1, .ref o2, .ref o3]) nol
      obtain ⟨_, _, _, _, hr10⟩ := R10.at_
      obtain ⟨_, _, _, _, hr11⟩ := R11.at_
      obtain ⟨os, eos, hos⟩ : ∃ os : List (Addr × List Int), os.map (fun p => V.ref p.1) = [.ref o1, .ref o2, .ref o3] ∧ ∀ p ∈ os, TI (upd H12 ol (.lst [.ref o1, .ref o2, .ref o3])) p.1 p.2 ∧ St n p.2 := by
        refine ⟨[(o1, U1), (o2, U2), (o3, U3)], rfl, fun p hp => ?_⟩
        simp at hp
        rcases hp with rfl | rfl | rfl
        · exact ⟨s13 _ _ ((b11.trans b12) _ _ ho1 (ne_of ho1 hr10 fun z => nomatch z)), hU1⟩
        · exact ⟨s13 _ _ (b12 _ _ ho2 (ne_of ho2 hr11 fun z => nomatch z)), (mS _ hU2).1⟩
        · exact ⟨s13 _ _ ho3, (mS _ hU3).1⟩
      have W13 := (W9.but hr9 b912).same s13
      have hb13 := s13 _ _ (b912 _ _ hb9 (ne_of hb9 hr9 fun z => nomatch z))
      have w13 := s13 _ _ (b912 _ _ w9 (ne_of w9 hr9 fun z => nomatch z))
      have c13 := s13 _ _ (b912 _ _ c9 (ne_of c9 hr9 fun z => nomatch z))
      have V13 := (V9.keep (H' := H12) fun b xs e => b912 _ _ e (ne_of e hr9 fun z => nomatch z)).keep (tups_same s13)
      have ol13 : upd H12 ol (.lst [.ref o1, .ref o2, .ref o3]) ol = some (.lst (os.map fun p => V.ref p.1)) := by rw [upd_same, eos]
      generalize upd H12 ol (.lst [.ref o1, .ref o2, .ref o3]) = H13 at hos W13 hb13 w13 c13 V13 ol13 ⊢
      clear s13
      refine ⟨ol, rfl, ⟨_, SqL.of ol13⟩, ?_⟩
      refine for_it (walk_list (K := K) (a := ol) (xs := os.map fun p => V.ref p.1)) (fun i σ H5 => ∃ (y12 : Option V), σ = [some (.ref sa), some (.ref r), some (.ref wa), some (.ref b), some (.ref d1), some (.ref d2), some (.ref d3), some (.ref l), y8, y9, y10, y11, y12] ∧ Same H13 H5)
        ⟨none, rfl, Same.refl _⟩ (fun i σ H5 _ ⟨_, _, sm⟩ => SqL.of (sm _ _ ol13)) (fun i x σ H14 H14' hi ⟨y12, e, s14⟩ y => ?_) (fun σ H14 ⟨y12, e, s14⟩ => ?_)
      · subst e
        obtain ⟨rfl, p, hp, rfl⟩ := yat_of y
        obtain ⟨hp13, stp⟩ := hos p (List.mem_of_getElem? hp)
        by_cases hR : Reach (arr A) S p.2
        · obtain ⟨w0, fw, lw⟩ := fr _ hR
          obtain ⟨p0, hp0, tp0⟩ := V13.at_ _ _ fw
          refine ⟨.ref wa, rfl, .ref b, rfl, .ref p.1, rfl, wa, b, p.1, n, A, S, p.2, rfl, W13.same s14, lx, s14 _ _ hb13, hS, s14 _ _ hp13, stp, fun H' s' nR => absurd hR nR, fun H15 pw ws s15 hl hw => ?_⟩
          have sm15 := s14.trans s15
          refine ⟨.ref d2, rfl, d2, rfl, .inr ⟨_, .inl (sm15 _ _ w13)⟩, .ref p.1, rfl, _, DGet.t (sm15 _ _ w13) (ti_ky (sm15 _ _ hp13)), ?_⟩
          rw [hp0]
          refine ⟨.ref pw, .ref p0, rfl, .inr ⟨pw, p0, ws, rfl, rfl, hw, by rw [hl.uniq lw]; exact sm15 _ _ tp0, by have := dist_lt h6 W4.ok hS hl.dist; omega⟩, fun H16 s16 => ⟨true, rfl, iteF ?_⟩⟩
          have sm16 := sm15.trans s16
          refine ⟨.ref wa, rfl, .ref b, rfl, .ref p.1, rfl, wa, b, p.1, n, A, S, p.2, rfl, W13.same sm16, lx, sm16 _ _ hb13, hS, sm16 _ _ hp13, stp, fun H' s' nR => absurd hR nR, fun H17 m s17 hm => ?_⟩
          have sm17 := sm16.trans s17
          refine ⟨.ref d3, rfl, d3, rfl, .inr ⟨_, .inl (sm17 _ _ c13)⟩, .ref p.1, rfl, _, DGet.t (sm17 _ _ c13) (ti_ky (sm17 _ _ hp13)), ?_⟩
          rw [(ce _ _).2 ⟨m, hm, rfl⟩]
          exact ⟨_, _, rfl, .inl (.inr ⟨_, rfl, rfl⟩), fun H18 s18 => ⟨true, rfl, iteF ⟨_, rfl, sm17.trans s18⟩⟩⟩
        · have v0 : valV wk (ky p.2) = none := (V13.no _).2 (fno _ hR)
          have v1 : valV ck (ky p.2) = none := by
            cases hv : valV ck (ky p.2) with
            | none => rfl
            | some v =>
              obtain ⟨m, hm, _⟩ := (ce _ _).1 hv
              exact absurd hm.reach hR
          refine ⟨.ref wa, rfl, .ref b, rfl, .ref p.1, rfl, wa, b, p.1, n, A, S, p.2, rfl, W13.same s14, lx, s14 _ _ hb13, hS, s14 _ _ hp13, stp, fun H15 s15 nR => ?_, fun H15 pw ws s15 hl hw => absurd hl.dist.reach hR⟩
          have sm15 := s14.trans s15
          refine ⟨.ref d2, rfl, d2, rfl, .inr ⟨_, .inl (sm15 _ _ w13)⟩, .ref p.1, rfl, _, DGet.t (sm15 _ _ w13) (ti_ky (sm15 _ _ hp13)), ?_⟩
          rw [v0]
          refine ⟨.non, .non, rfl, .inl (.inl ⟨rfl, rfl⟩), fun H16 s16 => ⟨true, rfl, iteF ?_⟩⟩
          have sm16 := sm15.trans s16
          refine ⟨.ref wa, rfl, .ref b, rfl, .ref p.1, rfl, wa, b, p.1, n, A, S, p.2, rfl, W13.same sm16, lx, sm16 _ _ hb13, hS, sm16 _ _ hp13, stp, fun H17 s17 nR => ?_, fun H17 m s17 hm => absurd hm.reach hR⟩
          have sm17 := sm16.trans s17
          refine ⟨.ref d3, rfl, d3, rfl, .inr ⟨_, .inl (sm17 _ _ c13)⟩, .ref p.1, rfl, _, DGet.t (sm17 _ _ c13) (ti_ky (sm17 _ _ hp13)), ?_⟩
          rw [v1]
          exact ⟨_, _, rfl, .inl (.inr ⟨0, rfl, rfl⟩), fun H18 s18 => ⟨true, rfl, iteF ⟨_, rfl, sm17.trans s18⟩⟩⟩
      · subst e
        exact q _
    | cons p0 b0 =>
      rw [← hb0]
      have ne : bs ≠ [] := by rw [hb0]; simp
      have e0 : bs.isEmpty = false := by rw [hb0]; rfl
      rw [e0]
      refine iteT ?_
      have hr64 : g < 64 := by
        have : p0.2 ∈ bs.map (·.2) := List.mem_map.2 ⟨p0, by rw [hb0]; simp, rfl⟩
        exact dist_lt h6 W4.ok hS ((L8.rows _).1 this)
      rw [if_neg ne]
      refine ⟨fun σ' H' => ∃ m', m' < 65 - g ∧ ∃ (l : Addr) (bs : List (Addr × List Int)) (g : Nat) (wk ck : Kvs) (f : Wd) (y8 y9 y10 y11 : Option V), σ' = [some (.ref sa), some (.ref r), some (.ref wa), some (.ref b), some (.ref d1), some (.ref d2), some (.ref d3), some (.ref l), y8, y9, y10, y11, none] ∧
        Same H4 H' ∧ H' d2 = some (.dT wk) ∧ H' d3 = some (.dT ck) ∧ Rw H' l bs ∧ WAt n (arr A) S H' wk f ∧ LawL n (arr A) S g f (bs.map (·.2)) ∧ CntL n (arr A) S g ck ∧ m' = (if bs = [] then 0 else 65 - g), fun σ' H' hN => hN, ?_⟩
      -- more = []
      refine ⟨Nat.zero_le _, fun M nM => ?_⟩
      have nMH : H4 M = none := Same.free s9 nM
      have t10 := same_new (o := .lst []) nM
      have nlM : l ≠ M := ne_of_none r9.1 nM
      refine ⟨.ref l, rfl, l, rfl, ⟨_, SqL.of (t10 _ _ r9.1)⟩, ?_⟩
      have few : bs.length ≤ 64 := by
        have := st_count6 h6 L8.nd fun T hT => ((L8.rows T).1 hT).st W4.ok hS
        rwa [List.length_map] at this
      let Iv : List (List Int × Int) → Hp → Prop := fun P H5 => ∃ (wk ck : Kvs) (f : Wd) (mo : List (Addr × List Int)), Same H4 H5 ∧ H5 d2 = some (.dT wk) ∧ H5 d3 = some (.dT ck) ∧ H5 l = some (.lst (bs.map fun p => V.ref p.1)) ∧ (∀ p ∈ bs, TI H5 p.1 p.2) ∧ Rw H5 M mo ∧
        WAt n (arr A) S H5 wk f ∧ LawM n (arr A) S g P f (mo.map (·.2)) ∧ CntM n (arr A) S g P ck
      refine for_it (walk_list (K := K) (a := l) (xs := bs.map fun p => V.ref p.1)) (fun i σ H5 => ∃ (y9 y10 y11 : Option V), σ = [some (.ref sa), some (.ref r), some (.ref wa), some (.ref b), some (.ref d1), some (.ref d2), some (.ref d3), some (.ref l), some (.ref M), y9, y10, y11, none] ∧ Iv (pairs n (arr A) ((bs.take i).map (·.2))) H5)
        ⟨y9, y10, y11, rfl, wk, ck, f, [], s9.trans t10, t10 _ _ w9, t10 _ _ c9, t10 _ _ r9.1, fun p hp => t10 _ _ (r9.2 p hp), ⟨upd_same, fun p hp => by cases hp⟩, V9.keep (tups_same t10), L8.begin, C8.begin⟩ (fun i σ H5 _ ⟨_, _, _, _, _, _, _, _, _, _, _, h, _⟩ => SqL.of h)
        (fun i x σ H5 H5' hi ⟨z9, z10, z11, e, wk5, ck5, f5, mo5, s5, w5, c5, l5, b5, m5, V5, M5, C5⟩ y => ?_) (fun σ H5 ⟨z9, z10, z11, e, wk5, ck5, f5, mo5, s5, w5, c5, l5, b5, m5, V5, M5, C5⟩ => ?_)
      · subst e
        obtain ⟨rfl, p, hp, rfl⟩ := yat_of y
        have pm := List.mem_of_getElem? hp
        have hX : IsDist (arr A) S p.2 g := (L8.rows _).1 (List.mem_map.2 ⟨p, pm, rfl⟩)
        have stX := hX.st W4.ok hS
        have et : bs.take (i + 1) = bs.take i ++ [p] := by rw [List.take_add_one, hp]; rfl
        refine ⟨.ref wa, rfl, .ref p.1, rfl, wa, p.1, n, A, p.2, rfl, W4.same s5, b5 p pm, stX, fun H10 pd s10 ⟨cs, hd10, ecs, hcs10⟩ => ?_⟩
        refine ⟨pd, rfl, ⟨_, SqL.of hd10⟩, ?_⟩
        have lcs : cs.length = (doable n (arr A) p.2).length := by rw [← ecs, List.length_map]
        refine for_it (walk_list (K := K) (a := pd) (xs := cs.map fun c => V.ref c.1)) (fun j σ H5 => ∃ (y10 y11 : Option V), σ = [some (.ref sa), some (.ref r), some (.ref wa), some (.ref b), some (.ref d1), some (.ref d2), some (.ref d3), some (.ref l), some (.ref M), some (.ref p.1), y10, y11, none] ∧ H5 pd = some (.lst (cs.map fun c => V.ref c.1)) ∧ (∀ c ∈ cs, H5 c.1 = some (.tup [.int c.2.2, .ref c.2.1]) ∧ TI H5 c.2.1 (chg p.2 c.2.2)) ∧
            Iv (pairs n (arr A) ((bs.take i).map (·.2)) ++ ((doable n (arr A) p.2).take j).map fun k => (p.2, k)) H5)
          ⟨z10, z11, rfl, hd10, hcs10, wk5, ck5, f5, mo5, s5.trans s10, s10 _ _ w5, s10 _ _ c5, s10 _ _ l5, fun p hp => s10 _ _ (b5 p hp), m5.keep (tups_same s10) fun _ e => s10 _ _ e, V5.keep (tups_same s10), by simpa using M5, by simpa using C5⟩ (fun j σ H5 _ ⟨_, _, _, h, _⟩ => SqL.of h)
          (fun j x σ H11 H11' hj ⟨w6, w7, e, hd11, hcs11, wk11, ck11, f11, mo11, s11, w11, c11, l11, b11, m11, V11, M11, C11⟩ y => ?_) (fun σ H11 ⟨w6, w7, e, hd11, hcs11, wk11, ck11, f11, mo11, s11, w11, c11, l11, b11, m11, V11, M11, C11⟩ => ?_)
        · subst e
          obtain ⟨rfl, c, hk, rfl⟩ := yat_of y
          have cm := List.mem_of_getElem? hk
          obtain ⟨hc1, ht11⟩ := hcs11 c cm
          have hk' : (doable n (arr A) p.2)[j]? = some c.2.2 := by rw [← ecs, List.getElem?_map, hk]; rfl
          have hc := (mem_doable W4.ok).1 (List.mem_of_getElem? hk')
          have stT := can_st W4.ok stX hc
          have etj : ((doable n (arr A) p.2).take (j + 1)).map (fun k => (p.2, k)) = ((doable n (arr A) p.2).take j).map (fun k => (p.2, k)) ++ [(p.2, c.2.2)] := by rw [List.take_add_one, hk', List.map_append]; rfl
          obtain ⟨dT, hdT, ldT⟩ := dist_step hX hc
          refine ⟨c.1, _, rfl, SqT.of hc1, rfl, _, _, rfl, _, _, rfl, rfl, ?_⟩
          -- if known[there] == known[here] + 1
          have k1 : valV kvs (ky (chg p.2 c.2.2)) = some (.int dT) := (told.get _ _).2 ⟨dT, rfl, hdT⟩
          have k2 : valV kvs (ky p.2) = some (.int g) := (told.get _ _).2 ⟨g, rfl, hX⟩
          have d11 := s11 _ _ hd1
          refine ⟨.ref d1, rfl, .ref c.2.1, rfl, d1, .int dT, rfl, by rw [← k1]; exact DGet.t d11 (ti_ky ht11), .ref d1, rfl, .ref p.1, rfl, d1, .int g, rfl, by rw [← k2]; exact DGet.t d11 (ti_ky (b11 p pm)), g, 1, rfl, rfl, rfl, _, rfl, ?_⟩
          by_cases eD : dT = g + 1
          · subst eD
            rw [decide_eq_true (congrArg V.int (by omega))]
            refine iteT ?_
            obtain ⟨u, hu1, hu2⟩ := M11.low p.2 g hX (Nat.le_refl _)
            obtain ⟨px, hpx, tpx⟩ := V11.at_ _ _ hu1
            have lu : u.length ≤ 100 := by
              have := hu2.dist.uniq hX
              omega
            have k3 : valV ck11 (ky p.2) = some (.int (cnt n (arr A) S g p.2)) := (C11.get _ _).2 (.inl ⟨g, Nat.le_refl _, hX, rfl⟩)
            have lwk := V11.keys.few h6
            have lck := C11.keys.few h6
            have npM : pd ≠ M := refs_ne hd11 m11 hk hc1
            have lmo : mo11.length ≤ 64 := by
              have := st_count6 h6 M11.nd fun T hT => ((M11.mo T).1 hT).1.st W4.ok hS
              rwa [List.length_map] at this
            let G : Hp → Kvs → Wd → List (Addr × List Int) → Prop := fun H12 wk' f' mo' => Tups H11' H12 ∧ Same H4 H12 ∧ H12 d2 = some (.dT wk') ∧ H12 d3 = some (.dT ck11) ∧ H12 l = some (.lst (bs.map fun p => V.ref p.1)) ∧ H12 pd = some (.lst (cs.map fun c => V.ref c.1)) ∧ Rw H12 M mo' ∧ WAt n (arr A) S H12 wk' f'
            have gsame : ∀ H12 H13 wk' f' mo', G H12 wk' f' mo' → Same H12 H13 → G H13 wk' f' mo' := fun H12 H13 wk' f' mo' ⟨g1, g2, g3, g4, g5, g6, g7, g8⟩ sm =>
              ⟨g1.trans (tups_same sm), g2.trans sm, sm _ _ g3, sm _ _ g4, sm _ _ g5, sm _ _ g6, g7.keep (tups_same sm) (fun _ e => sm _ _ e), g8.keep (tups_same sm)⟩
            have gput : ∀ H13 mo' pw w', G H13 wk11 f11 mo' → TI H13 pw w' → G (upd H13 d2 (.dT (putK wk11 (ky (chg p.2 c.2.2)) (.ref pw)))) (putK wk11 (ky (chg p.2 c.2.2)) (.ref pw)) (putF f11 (chg p.2 c.2.2) w') mo' := by
              intro H13 mo' pw w' ⟨g1, g2, g3, g4, g5, g6, g7, g8⟩ hw
              have tu : Tups H13 (upd H13 d2 (.dT (putK wk11 (ky (chg p.2 c.2.2)) (.ref pw)))) := tups_upd g3 (fun _ z => nomatch z)
              refine ⟨g1.trans tu, fun bb o e => ?_, upd_same, ?_, ?_, ?_, g7.keep tu fun xs e => ?_, (g8.put hw stT hdT.reach).keep tu⟩
              · rw [upd_ne (ne_of_none e nd2)]
                exact g2 _ _ e
              · rw [upd_ne n23.symm]
                exact g4
              · rw [upd_ne (ne_of g5 g3 fun z => nomatch z)]
                exact g5
              · rw [upd_ne (ne_of g6 g3 fun z => nomatch z)]
                exact g6
              · rw [upd_ne (ne_of e g3 fun z => nomatch z)]
                exact e
            have fin : ∀ H12 wk' f' mo', G H12 wk' f' mo' → LawM n (arr A) S g ((pairs n (arr A) ((bs.take i).map (·.2)) ++ ((doable n (arr A) p.2).take j).map fun k => (p.2, k)) ++ [(p.2, c.2.2)]) f' (mo'.map (·.2)) →
                (upd H12 d3 (.dT (putK ck11 (ky (chg p.2 c.2.2)) (.int (psum (cnt n (arr A) S g) (pairs n (arr A) ((bs.take i).map (·.2)) ++ ((doable n (arr A) p.2).take j).map fun k => (p.2, k)) (chg p.2 c.2.2) + cnt n (arr A) S g p.2))))) pd = some (.lst (cs.map fun c => V.ref c.1)) ∧
                (∀ c' ∈ cs, (upd H12 d3 (.dT (putK ck11 (ky (chg p.2 c.2.2)) (.int (psum (cnt n (arr A) S g) (pairs n (arr A) ((bs.take i).map (·.2)) ++ ((doable n (arr A) p.2).take j).map fun k => (p.2, k)) (chg p.2 c.2.2) + cnt n (arr A) S g p.2))))) c'.1 = some (.tup [.int c'.2.2, .ref c'.2.1]) ∧
                  TI (upd H12 d3 (.dT (putK ck11 (ky (chg p.2 c.2.2)) (.int (psum (cnt n (arr A) S g) (pairs n (arr A) ((bs.take i).map (·.2)) ++ ((doable n (arr A) p.2).take j).map fun k => (p.2, k)) (chg p.2 c.2.2) + cnt n (arr A) S g p.2))))) c'.2.1 (chg p.2 c'.2.2)) ∧
                Iv (pairs n (arr A) ((bs.take i).map (·.2)) ++ ((doable n (arr A) p.2).take (j + 1)).map fun k => (p.2, k)) (upd H12 d3 (.dT (putK ck11 (ky (chg p.2 c.2.2)) (.int (psum (cnt n (arr A) S g) (pairs n (arr A) ((bs.take i).map (·.2)) ++ ((doable n (arr A) p.2).take j).map fun k => (p.2, k)) (chg p.2 c.2.2) + cnt n (arr A) S g p.2))))) := by
              intro H12 wk' f' mo' ⟨g1, g2, g3, g4, g5, g6, g7, g8⟩ ML
              have tu : Tups H12 (upd H12 d3 (.dT (putK ck11 (ky (chg p.2 c.2.2)) (.int (psum (cnt n (arr A) S g) (pairs n (arr A) ((bs.take i).map (·.2)) ++ ((doable n (arr A) p.2).take j).map fun k => (p.2, k)) (chg p.2 c.2.2) + cnt n (arr A) S g p.2))))) := tups_upd g4 (fun _ z => nomatch z)
              have t2 := g1.trans tu
              refine ⟨by rw [upd_ne (ne_of g6 g4 fun z => nomatch z)]; exact g6, fun c' hc' => ⟨t2 _ _ (hcs11 c' hc').1, t2 _ _ (hcs11 c' hc').2⟩, wk', _, f', mo', fun bb o e => ?_, ?_, upd_same, ?_, fun p hp => t2 _ _ (b11 p hp), g7.keep tu fun xs e => ?_, g8.keep tu, ?_, ?_⟩
              · rw [upd_ne (ne_of_none e nd3)]
                exact g2 _ _ e
              · rw [upd_ne n23]
                exact g3
              · rw [upd_ne (ne_of g5 g4 fun z => nomatch z)]
                exact g5
              · rw [upd_ne (ne_of e g4 fun z => nomatch z)]
                exact e
              · rw [etj, ← List.append_assoc]
                exact ML
              · rw [etj, ← List.append_assoc]
                exact C11.put hdT stT
            have g11 : G H11' wk11 f11 mo11 := ⟨Tups.refl _, s11, w11, c11, l11, hd11, m11, V11⟩
            refine ⟨.ref c.2.1, rfl, .ref d2, rfl, d2, _, rfl, DGet.t w11 (ti_ky ht11), _, rfl, ?_⟩
            cases hv : valV wk11 (ky (chg p.2 c.2.2)) with
            | none =>
              have fn := (V11.no _).1 hv
              refine iteT ⟨.ref M, rfl, .inl ⟨rfl, _, SqL.of m11.1⟩, .ref c.2.1, rfl, M, _, _, rfl, rfl, m11.1, small' (by rw [List.length_map]; omega), ?_⟩
              have g12 : G (upd H11' M (.lst (mo11.map (fun p => V.ref p.1) ++ [.ref c.2.1]))) wk11 f11 (mo11 ++ [(c.2.1, chg p.2 c.2.2)]) := by
                have tu : Tups H11' (upd H11' M (.lst (mo11.map (fun p => V.ref p.1) ++ [.ref c.2.1]))) := tups_upd m11.1 (fun _ z => nomatch z)
                refine ⟨tu, fun bb o e => ?_, ?_, ?_, ?_, ?_, m11.put (p := (c.2.1, chg p.2 c.2.2)) ht11 tu (by rw [upd_same]), V11.keep tu⟩
                · rw [upd_ne (ne_of_none e nMH)]
                  exact s11 _ _ e
                · rw [upd_ne (ne_of w11 m11.1 fun z => nomatch z)]
                  exact w11
                · rw [upd_ne (ne_of c11 m11.1 fun z => nomatch z)]
                  exact c11
                · rw [upd_ne nlM]
                  exact l11
                · rw [upd_ne npM]
                  exact hd11
              generalize upd H11' M (.lst (mo11.map (fun p => V.ref p.1) ++ [.ref c.2.1])) = H12 at g12 ⊢
              have ML := M11.put hX hu2 hdT (fun w e => by rw [fn] at e; cases e)
              rw [if_pos fn, show mo11.map (·.2) ++ [chg p.2 c.2.2] = (mo11 ++ [(c.2.1, chg p.2 c.2.2)]).map (·.2) by rw [List.map_append]; rfl] at ML
              refine ⟨.ref c.2.1, rfl, .ref d2, rfl, d2, _, rfl, DGet.t g12.2.2.1 (ti_ky (g12.1 _ _ ht11)), _, rfl, ?_⟩
              rw [hv]
              refine iteT (iteT ?_)
              refine ⟨.ref d2, rfl, .ref p.1, rfl, d2, .ref px, rfl, by rw [← hpx]; exact DGet.t g12.2.2.1 (ti_ky (g12.1 _ _ (b11 p pm))), .int c.2.2, rfl, by show 1 ≤ sizeLine; decide, fun z nz => catA_of (same_new nz _ _ (g12.1 _ _ tpx)) upd_same lu fun H13 pw s13 hw => ?_⟩
              have g13 := gsame _ _ _ _ _ g12 ((same_new nz).trans s13)
              refine ⟨.ref d2, rfl, .ref c.2.1, rfl, d2, _, rfl, DPut.t g13.2.2.1 (ti_ky (g13.1 _ _ ht11)) (small' (by omega)), ?_⟩
              have g14 := gput _ _ _ _ g13 hw
              generalize upd H13 d2 (.dT (putK wk11 (ky (chg p.2 c.2.2)) (.ref pw))) = H14 at g14 ⊢
              refine ⟨.ref d3, rfl, d3, rfl, .inr ⟨_, .inl g14.2.2.2.1⟩, .ref c.2.1, rfl, _, DGet.t g14.2.2.2.1 (ti_ky (g14.1 _ _ ht11)), ?_⟩
              rw [C11.or hdT]
              refine ⟨.ref d3, rfl, .ref p.1, rfl, d3, .int (cnt n (arr A) S g p.2), rfl, by rw [← k3]; exact DGet.t g14.2.2.2.1 (ti_ky (g14.1 _ _ (b11 p pm))), _, _, rfl, rfl, .ref d3, rfl, .ref c.2.1, rfl, d3, _, rfl, DPut.t g14.2.2.2.1 (ti_ky (g14.1 _ _ ht11)) (small' (by omega)), ?_⟩
              exact ⟨_, _, rfl, fin _ _ _ _ g14 ML⟩
            | some v =>
              have fs : f11 (chg p.2 c.2.2) ≠ none := fun e => by
                have := (V11.no _).2 e
                rw [hv] at this
                cases this
              cases hf : f11 (chg p.2 c.2.2) with
              | none => exact absurd hf fs
              | some w0 =>
                obtain ⟨pw0, hpw, tw0⟩ := V11.at_ _ _ hf
                refine iteF ?_
                refine ⟨.ref c.2.1, rfl, .ref d2, rfl, d2, _, rfl, DGet.t w11 (ti_ky ht11), _, rfl, ?_⟩
                rw [hv]
                refine iteF ?_
                refine ⟨.ref d2, rfl, .ref p.1, rfl, d2, .ref px, rfl, by rw [← hpx]; exact DGet.t w11 (ti_ky (b11 p pm)), .int c.2.2, rfl, by show 1 ≤ sizeLine; decide, fun z nz => catA_of (same_new nz _ _ tpx) upd_same lu fun H12 pw1 s12 hw1 => ?_⟩
                have g12 := gsame _ _ _ _ _ g11 ((same_new nz).trans s12)
                refine ⟨.ref d2, rfl, .ref c.2.1, rfl, d2, .ref pw0, rfl, by rw [← hpw]; exact DGet.t g12.2.2.1 (ti_ky (g12.1 _ _ ht11)), pw1, pw0, u ++ [c.2.2], w0, rfl, rfl, SqT.of hw1, SqT.of (g12.1 _ _ tw0), _, rfl, ?_⟩
                rw [lex_same]
                by_cases el : lexLt (u ++ [c.2.2]) w0 = true
                · rw [el]
                  refine iteT ?_
                  have ML := M11.put hX hu2 hdT (fun w e => by rw [hf] at e; cases e; exact el)
                  rw [if_neg fs] at ML
                  refine ⟨.ref d2, rfl, .ref p.1, rfl, d2, .ref px, rfl, by rw [← hpx]; exact DGet.t g12.2.2.1 (ti_ky (g12.1 _ _ (b11 p pm))), .int c.2.2, rfl, by show 1 ≤ sizeLine; decide, fun z nz => catA_of (same_new nz _ _ (g12.1 _ _ tpx)) upd_same lu fun H13 pw s13 hw => ?_⟩
                  have g13 := gsame _ _ _ _ _ g12 ((same_new nz).trans s13)
                  refine ⟨.ref d2, rfl, .ref c.2.1, rfl, d2, _, rfl, DPut.t g13.2.2.1 (ti_ky (g13.1 _ _ ht11)) (small' (by omega)), ?_⟩
                  have g14 := gput _ _ _ _ g13 hw
                  generalize upd H13 d2 (.dT (putK wk11 (ky (chg p.2 c.2.2)) (.ref pw))) = H14 at g14 ⊢
                  refine ⟨.ref d3, rfl, d3, rfl, .inr ⟨_, .inl g14.2.2.2.1⟩, .ref c.2.1, rfl, _, DGet.t g14.2.2.2.1 (ti_ky (g14.1 _ _ ht11)), ?_⟩
                  rw [C11.or hdT]
                  refine ⟨.ref d3, rfl, .ref p.1, rfl, d3, .int (cnt n (arr A) S g p.2), rfl, by rw [← k3]; exact DGet.t g14.2.2.2.1 (ti_ky (g14.1 _ _ (b11 p pm))), _, _, rfl, rfl, .ref d3, rfl, .ref c.2.1, rfl, d3, _, rfl, DPut.t g14.2.2.2.1 (ti_ky (g14.1 _ _ ht11)) (small' (by omega)), ?_⟩
                  exact ⟨_, _, rfl, fin _ _ _ _ g14 ML⟩
                · rw [Bool.eq_false_iff.2 el]
                  refine iteF ?_
                  have ML := M11.stay hu2 hf (Bool.eq_false_iff.2 el) hdT
                  refine ⟨.ref d3, rfl, d3, rfl, .inr ⟨_, .inl g12.2.2.2.1⟩, .ref c.2.1, rfl, _, DGet.t g12.2.2.2.1 (ti_ky (g12.1 _ _ ht11)), ?_⟩
                  rw [C11.or hdT]
                  refine ⟨.ref d3, rfl, .ref p.1, rfl, d3, .int (cnt n (arr A) S g p.2), rfl, by rw [← k3]; exact DGet.t g12.2.2.2.1 (ti_ky (g12.1 _ _ (b11 p pm))), _, _, rfl, rfl, .ref d3, rfl, .ref c.2.1, rfl, d3, _, rfl, DPut.t g12.2.2.2.1 (ti_ky (g12.1 _ _ ht11)) (small' (by omega)), ?_⟩
                  exact ⟨_, _, rfl, fin _ _ _ _ g12 ML⟩
          · rw [decide_eq_false (fun z => eD (by have := V.int.inj z; omega))]
            have nD : ¬ IsDist (arr A) S (chg p.2 c.2.2) (g + 1) := fun z => eD (hdT.uniq z)
            refine iteF ⟨_, _, rfl, hd11, hcs11, wk11, ck11, f11, mo11, s11, w11, c11, l11, b11, m11, V11, ?_, ?_⟩
            · rw [etj, ← List.append_assoc]
              exact M11.skip nD
            · rw [etj, ← List.append_assoc]
              exact C11.skip nD
        · subst e
          refine ⟨_, _, _, rfl, wk11, ck11, f11, mo11, s11, w11, c11, l11, b11, m11, V11, ?_, ?_⟩
          · rw [et, List.map_append]
            show LawM n (arr A) S g (pairs n (arr A) ((bs.take i).map (·.2) ++ [p.2])) _ _
            rw [pairs_next]
            rwa [List.length_map, lcs, List.take_length] at M11
          · rw [et, List.map_append]
            show CntM n (arr A) S g (pairs n (arr A) ((bs.take i).map (·.2) ++ [p.2])) _
            rw [pairs_next]
            rwa [List.length_map, lcs, List.take_length] at C11
      · subst e
        rw [List.length_map, List.take_length] at M5 C5
        refine ⟨.ref M, rfl, _, ?_, M, mo5, g + 1, wk5, ck5, f5, _, _, _, _, rfl, s5, w5, c5, m5, V5, M5.done W4.ok hS L8, C5.done W4.ok hS L8.nd L8.rows, rfl⟩
        split
        · omega
        · omega
end
end Pl


set_option Elab.async false
set_option linter.all false
set_option maxRecDepth 100000
namespace Pl
open PySem PySem.Spec PyProof.Rows L2 Pr
theorem all_mk {l : PySem.W.OpenLaw} {w : World} {K : PySem.W.Frag} {h : Heap} {mg : Str → Option Value} {fa : Addr} (X : K.In h) (G : h.Ns mainGlobals mg) (hfa : mg "law" = some (.ref fa)) {tm : Nat}
    {f1 : Addr} {od1 an1 : Option Addr} {sl1 : Array (Option Value)} {oc1 kV1 dc1 pm1 cd1 ct1 : Value} (a1 : PySem.W.nsIn K mainGlobals "is_in" = some (some (.ref f1))) (l1 : K.lookup f1 = some ⟨oc1, od1, .func (PySem.W.fnOf "is_in" "is_in" (defArgs s_is_in) (defBody s_is_in) (defScope s_is_in) .none kV1 dc1 pm1 an1 cd1 ct1), sl1⟩) (c1 : PySem.W.codeIn K cd1 "is_in" = true) (k1 : PySem.W.keepIn K (.ref f1) = true)
    {f2 : Addr} {od2 an2 : Option Addr} {sl2 : Array (Option Value)} {oc2 kV2 dc2 pm2 cd2 ct2 : Value} (a2 : PySem.W.nsIn K mainGlobals "is_arrow" = some (some (.ref f2))) (l2 : K.lookup f2 = some ⟨oc2, od2, .func (PySem.W.fnOf "is_arrow" "is_arrow" (defArgs s_is_arrow) (defBody s_is_arrow) (defScope s_is_arrow) .none kV2 dc2 pm2 an2 cd2 ct2), sl2⟩) (c2 : PySem.W.codeIn K cd2 "is_arrow" = true) (k2 : PySem.W.keepIn K (.ref f2) = true)
    {f3 : Addr} {od3 an3 : Option Addr} {sl3 : Array (Option Value)} {oc3 kV3 dc3 pm3 cd3 ct3 : Value} (a3 : PySem.W.nsIn K mainGlobals "need_web" = some (some (.ref f3))) (l3 : K.lookup f3 = some ⟨oc3, od3, .func (PySem.W.fnOf "need_web" "need_web" (defArgs s_need_web) (defBody s_need_web) (defScope s_need_web) .none kV3 dc3 pm3 an3 cd3 ct3), sl3⟩) (c3 : PySem.W.codeIn K cd3 "need_web" = true) (k3 : PySem.W.keepIn K (.ref f3) = true)
    {f4 : Addr} {od4 an4 : Option Addr} {sl4 : Array (Option Value)} {oc4 kV4 dc4 pm4 cd4 ct4 : Value} (a4 : PySem.W.nsIn K mainGlobals "need_burning" = some (some (.ref f4))) (l4 : K.lookup f4 = some ⟨oc4, od4, .func (PySem.W.fnOf "need_burning" "need_burning" (defArgs s_need_burning) (defBody s_need_burning) (defScope s_need_burning) .none kV4 dc4 pm4 an4 cd4 ct4), sl4⟩) (c4 : PySem.W.codeIn K cd4 "need_burning" = true) (k4 : PySem.W.keepIn K (.ref f4) = true)
    {f5 : Addr} {od5 an5 : Option Addr} {sl5 : Array (Option Value)} {oc5 kV5 dc5 pm5 cd5 ct5 : Value} (a5 : PySem.W.nsIn K mainGlobals "need_both" = some (some (.ref f5))) (l5 : K.lookup f5 = some ⟨oc5, od5, .func (PySem.W.fnOf "need_both" "need_both" (defArgs s_need_both) (defBody s_need_both) (defScope s_need_both) .none kV5 dc5 pm5 an5 cd5 ct5), sl5⟩) (c5 : PySem.W.codeIn K cd5 "need_both" = true) (k5 : PySem.W.keepIn K (.ref f5) = true)
    {f6 : Addr} {od6 an6 : Option Addr} {sl6 : Array (Option Value)} {oc6 kV6 dc6 pm6 cd6 ct6 : Value} (a6 : PySem.W.nsIn K mainGlobals "need_two" = some (some (.ref f6))) (l6 : K.lookup f6 = some ⟨oc6, od6, .func (PySem.W.fnOf "need_two" "need_two" (defArgs s_need_two) (defBody s_need_two) (defScope s_need_two) .none kV6 dc6 pm6 an6 cd6 ct6), sl6⟩) (c6 : PySem.W.codeIn K cd6 "need_two" = true) (k6 : PySem.W.keepIn K (.ref f6) = true)
    {f7 : Addr} {od7 an7 : Option Addr} {sl7 : Array (Option Value)} {oc7 kV7 dc7 pm7 cd7 ct7 : Value} (a7 : PySem.W.nsIn K mainGlobals "led_from" = some (some (.ref f7))) (l7 : K.lookup f7 = some ⟨oc7, od7, .func (PySem.W.fnOf "led_from" "led_from" (defArgs s_led_from) (defBody s_led_from) (defScope s_led_from) .none kV7 dc7 pm7 an7 cd7 ct7), sl7⟩) (c7 : PySem.W.codeIn K cd7 "led_from" = true) (k7 : PySem.W.keepIn K (.ref f7) = true)
    {f8 : Addr} {od8 an8 : Option Addr} {sl8 : Array (Option Value)} {oc8 kV8 dc8 pm8 cd8 ct8 : Value} (a8 : PySem.W.nsIn K mainGlobals "turned_in" = some (some (.ref f8))) (l8 : K.lookup f8 = some ⟨oc8, od8, .func (PySem.W.fnOf "turned_in" "turned_in" (defArgs s_turned_in) (defBody s_turned_in) (defScope s_turned_in) .none kV8 dc8 pm8 an8 cd8 ct8), sl8⟩) (c8 : PySem.W.codeIn K cd8 "turned_in" = true) (k8 : PySem.W.keepIn K (.ref f8) = true)
    {f9 : Addr} {od9 an9 : Option Addr} {sl9 : Array (Option Value)} {oc9 kV9 dc9 pm9 cd9 ct9 : Value} (a9 : PySem.W.nsIn K mainGlobals "comes_in" = some (some (.ref f9))) (l9 : K.lookup f9 = some ⟨oc9, od9, .func (PySem.W.fnOf "comes_in" "comes_in" (defArgs s_comes_in) (defBody s_comes_in) (defScope s_comes_in) .none kV9 dc9 pm9 an9 cd9 ct9), sl9⟩) (c9 : PySem.W.codeIn K cd9 "comes_in" = true) (k9 : PySem.W.keepIn K (.ref f9) = true)
    {f10 : Addr} {od10 an10 : Option Addr} {sl10 : Array (Option Value)} {oc10 kV10 dc10 pm10 cd10 ct10 : Value} (a10 : PySem.W.nsIn K mainGlobals "light_in" = some (some (.ref f10))) (l10 : K.lookup f10 = some ⟨oc10, od10, .func (PySem.W.fnOf "light_in" "light_in" (defArgs s_light_in) (defBody s_light_in) (defScope s_light_in) .none kV10 dc10 pm10 an10 cd10 ct10), sl10⟩) (c10 : PySem.W.codeIn K cd10 "light_in" = true) (k10 : PySem.W.keepIn K (.ref f10) = true)
    {f11 : Addr} {od11 an11 : Option Addr} {sl11 : Array (Option Value)} {oc11 kV11 dc11 pm11 cd11 ct11 : Value} (a11 : PySem.W.nsIn K mainGlobals "quench_in" = some (some (.ref f11))) (l11 : K.lookup f11 = some ⟨oc11, od11, .func (PySem.W.fnOf "quench_in" "quench_in" (defArgs s_quench_in) (defBody s_quench_in) (defScope s_quench_in) .none kV11 dc11 pm11 an11 cd11 ct11), sl11⟩) (c11 : PySem.W.codeIn K cd11 "quench_in" = true) (k11 : PySem.W.keepIn K (.ref f11) = true)
    {f12 : Addr} {od12 an12 : Option Addr} {sl12 : Array (Option Value)} {oc12 kV12 dc12 pm12 cd12 ct12 : Value} (a12 : PySem.W.nsIn K mainGlobals "changed" = some (some (.ref f12))) (l12 : K.lookup f12 = some ⟨oc12, od12, .func (PySem.W.fnOf "changed" "changed" (defArgs s_changed) (defBody s_changed) (defScope s_changed) .none kV12 dc12 pm12 an12 cd12 ct12), sl12⟩) (c12 : PySem.W.codeIn K cd12 "changed" = true) (k12 : PySem.W.keepIn K (.ref f12) = true)
    {f13 : Addr} {od13 an13 : Option Addr} {sl13 : Array (Option Value)} {oc13 kV13 dc13 pm13 cd13 ct13 : Value} (a13 : PySem.W.nsIn K mainGlobals "doable" = some (some (.ref f13))) (l13 : K.lookup f13 = some ⟨oc13, od13, .func (PySem.W.fnOf "doable" "doable" (defArgs s_doable) (defBody s_doable) (defScope s_doable) .none kV13 dc13 pm13 an13 cd13 ct13), sl13⟩) (c13 : PySem.W.codeIn K cd13 "doable" = true) (k13 : PySem.W.keepIn K (.ref f13) = true)
    {f14 : Addr} {od14 an14 : Option Addr} {sl14 : Array (Option Value)} {oc14 kV14 dc14 pm14 cd14 ct14 : Value} (a14 : PySem.W.nsIn K mainGlobals "steps_from" = some (some (.ref f14))) (l14 : K.lookup f14 = some ⟨oc14, od14, .func (PySem.W.fnOf "steps_from" "steps_from" (defArgs s_steps_from) (defBody s_steps_from) (defScope s_steps_from) .none kV14 dc14 pm14 an14 cd14 ct14), sl14⟩) (c14 : PySem.W.codeIn K cd14 "steps_from" = true) (k14 : PySem.W.keepIn K (.ref f14) = true)
    {f15 : Addr} {od15 an15 : Option Addr} {sl15 : Array (Option Value)} {oc15 kV15 dc15 pm15 cd15 ct15 : Value} (a15 : PySem.W.nsIn K mainGlobals "steps_to" = some (some (.ref f15))) (l15 : K.lookup f15 = some ⟨oc15, od15, .func (PySem.W.fnOf "steps_to" "steps_to" (defArgs s_steps_to) (defBody s_steps_to) (defScope s_steps_to) .none kV15 dc15 pm15 an15 cd15 ct15), sl15⟩) (c15 : PySem.W.codeIn K cd15 "steps_to" = true) (k15 : PySem.W.keepIn K (.ref f15) = true)
    {f16 : Addr} {od16 an16 : Option Addr} {sl16 : Array (Option Value)} {oc16 kV16 dc16 pm16 cd16 ct16 : Value} (a16 : PySem.W.nsIn K mainGlobals "way_between" = some (some (.ref f16))) (l16 : K.lookup f16 = some ⟨oc16, od16, .func (PySem.W.fnOf "way_between" "way_between" (defArgs s_way_between) (defBody s_way_between) (defScope s_way_between) .none kV16 dc16 pm16 an16 cd16 ct16), sl16⟩) (c16 : PySem.W.codeIn K cd16 "way_between" = true) (k16 : PySem.W.keepIn K (.ref f16) = true)
    {f17 : Addr} {od17 an17 : Option Addr} {sl17 : Array (Option Value)} {oc17 kV17 dc17 pm17 cd17 ct17 : Value} (a17 : PySem.W.nsIn K mainGlobals "ways_count" = some (some (.ref f17))) (l17 : K.lookup f17 = some ⟨oc17, od17, .func (PySem.W.fnOf "ways_count" "ways_count" (defArgs s_ways_count) (defBody s_ways_count) (defScope s_ways_count) .none kV17 dc17 pm17 an17 cd17 ct17), sl17⟩) (c17 : PySem.W.codeIn K cd17 "ways_count" = true) (k17 : PySem.W.keepIn K (.ref f17) = true)
    {f18 : Addr} {od18 an18 : Option Addr} {sl18 : Array (Option Value)} {oc18 kV18 dc18 pm18 cd18 ct18 : Value} (a18 : PySem.W.nsIn K mainGlobals "_law_taken" = some (some (.ref f18))) (l18 : K.lookup f18 = some ⟨oc18, od18, .func (PySem.W.fnOf "_law_taken" "_law_taken" (defArgs s_law_taken) (defBody s_law_taken) (defScope s_law_taken) .none kV18 dc18 pm18 an18 cd18 ct18), sl18⟩) (c18 : PySem.W.codeIn K cd18 "_law_taken" = true) (k18 : PySem.W.keepIn K (.ref f18) = true)
    {f19 : Addr} {od19 an19 : Option Addr} {sl19 : Array (Option Value)} {oc19 kV19 dc19 pm19 cd19 ct19 : Value} (a19 : PySem.W.nsIn K mainGlobals "_law_pick" = some (some (.ref f19))) (l19 : K.lookup f19 = some ⟨oc19, od19, .func (PySem.W.fnOf "_law_pick" "_law_pick" (defArgs s_law_pick) (defBody s_law_pick) (defScope s_law_pick) .none kV19 dc19 pm19 an19 cd19 ct19), sl19⟩) (c19 : PySem.W.codeIn K cd19 "_law_pick" = true) (k19 : PySem.W.keepIn K (.ref f19) = true)
    {f20 : Addr} {od20 an20 : Option Addr} {sl20 : Array (Option Value)} {oc20 kV20 dc20 pm20 cd20 ct20 : Value} (a20 : PySem.W.nsIn K mainGlobals "_law_web" = some (some (.ref f20))) (l20 : K.lookup f20 = some ⟨oc20, od20, .func (PySem.W.fnOf "_law_web" "_law_web" (defArgs s_law_web) (defBody s_law_web) (defScope s_law_web) .none kV20 dc20 pm20 an20 cd20 ct20), sl20⟩) (c20 : PySem.W.codeIn K cd20 "_law_web" = true) (k20 : PySem.W.keepIn K (.ref f20) = true)
    {f21 : Addr} {od21 an21 : Option Addr} {sl21 : Array (Option Value)} {oc21 kV21 dc21 pm21 cd21 ct21 : Value} (a21 : PySem.W.nsIn K mainGlobals "_law_burning" = some (some (.ref f21))) (l21 : K.lookup f21 = some ⟨oc21, od21, .func (PySem.W.fnOf "_law_burning" "_law_burning" (defArgs s_law_burning) (defBody s_law_burning) (defScope s_law_burning) .none kV21 dc21 pm21 an21 cd21 ct21), sl21⟩) (c21 : PySem.W.codeIn K cd21 "_law_burning" = true) (k21 : PySem.W.keepIn K (.ref f21) = true)
    {f22 : Addr} {od22 an22 : Option Addr} {sl22 : Array (Option Value)} {oc22 kV22 dc22 pm22 cd22 ct22 : Value} (a22 : PySem.W.nsIn K mainGlobals "_law_changed" = some (some (.ref f22))) (l22 : K.lookup f22 = some ⟨oc22, od22, .func (PySem.W.fnOf "_law_changed" "_law_changed" (defArgs s_law_changed) (defBody s_law_changed) (defScope s_law_changed) .none kV22 dc22 pm22 an22 cd22 ct22), sl22⟩) (c22 : PySem.W.codeIn K cd22 "_law_changed" = true) (k22 : PySem.W.keepIn K (.ref f22) = true)
    {f23 : Addr} {od23 an23 : Option Addr} {sl23 : Array (Option Value)} {oc23 kV23 dc23 pm23 cd23 ct23 : Value} (a23 : PySem.W.nsIn K mainGlobals "_law_light" = some (some (.ref f23))) (l23 : K.lookup f23 = some ⟨oc23, od23, .func (PySem.W.fnOf "_law_light" "_law_light" (defArgs s_law_light) (defBody s_law_light) (defScope s_law_light) .none kV23 dc23 pm23 an23 cd23 ct23), sl23⟩) (c23 : PySem.W.codeIn K cd23 "_law_light" = true) (k23 : PySem.W.keepIn K (.ref f23) = true)
    {f24 : Addr} {od24 an24 : Option Addr} {sl24 : Array (Option Value)} {oc24 kV24 dc24 pm24 cd24 ct24 : Value} (a24 : PySem.W.nsIn K mainGlobals "_law_quench" = some (some (.ref f24))) (l24 : K.lookup f24 = some ⟨oc24, od24, .func (PySem.W.fnOf "_law_quench" "_law_quench" (defArgs s_law_quench) (defBody s_law_quench) (defScope s_law_quench) .none kV24 dc24 pm24 an24 cd24 ct24), sl24⟩) (c24 : PySem.W.codeIn K cd24 "_law_quench" = true) (k24 : PySem.W.keepIn K (.ref f24) = true)
    {f25 : Addr} {od25 an25 : Option Addr} {sl25 : Array (Option Value)} {oc25 kV25 dc25 pm25 cd25 ct25 : Value} (a25 : PySem.W.nsIn K mainGlobals "_law_after" = some (some (.ref f25))) (l25 : K.lookup f25 = some ⟨oc25, od25, .func (PySem.W.fnOf "_law_after" "_law_after" (defArgs s_law_after) (defBody s_law_after) (defScope s_law_after) .none kV25 dc25 pm25 an25 cd25 ct25), sl25⟩) (c25 : PySem.W.codeIn K cd25 "_law_after" = true) (k25 : PySem.W.keepIn K (.ref f25) = true)
    {f26 : Addr} {od26 an26 : Option Addr} {sl26 : Array (Option Value)} {oc26 kV26 dc26 pm26 cd26 ct26 : Value} (a26 : PySem.W.nsIn K mainGlobals "_law_from" = some (some (.ref f26))) (l26 : K.lookup f26 = some ⟨oc26, od26, .func (PySem.W.fnOf "_law_from" "_law_from" (defArgs s_law_from) (defBody s_law_from) (defScope s_law_from) .none kV26 dc26 pm26 an26 cd26 ct26), sl26⟩) (c26 : PySem.W.codeIn K cd26 "_law_from" = true) (k26 : PySem.W.keepIn K (.ref f26) = true)
    {f27 : Addr} {od27 an27 : Option Addr} {sl27 : Array (Option Value)} {oc27 kV27 dc27 pm27 cd27 ct27 : Value} (a27 : PySem.W.nsIn K mainGlobals "_law_alike" = some (some (.ref f27))) (l27 : K.lookup f27 = some ⟨oc27, od27, .func (PySem.W.fnOf "_law_alike" "_law_alike" (defArgs s_law_alike) (defBody s_law_alike) (defScope s_law_alike) .none kV27 dc27 pm27 an27 cd27 ct27), sl27⟩) (c27 : PySem.W.codeIn K cd27 "_law_alike" = true) (k27 : PySem.W.keepIn K (.ref f27) = true)
    {f28 : Addr} {od28 an28 : Option Addr} {sl28 : Array (Option Value)} {oc28 kV28 dc28 pm28 cd28 ct28 : Value} (a28 : PySem.W.nsIn K mainGlobals "law" = some (some (.ref f28))) (l28 : K.lookup f28 = some ⟨oc28, od28, .func (PySem.W.fnOf "law" "law" (defArgs s_law) (defBody s_law) (defScope s_law) .none kV28 dc28 pm28 an28 cd28 ct28), sl28⟩) (c28 : PySem.W.codeIn K cd28 "law" = true) (k28 : PySem.W.keepIn K (.ref f28) = true)
    (z1 : PySem.W.nsIn K mainGlobals "len" = some none)
    (z2 : PySem.W.nsIn K mainGlobals "isinstance" = some none)
    (z3 : PySem.W.nsIn K mainGlobals "int" = some none)
    (z4 : PySem.W.nsIn K mainGlobals "bool" = some none)
    (z5 : PySem.W.nsIn K mainGlobals "tuple" = some none)
    (z6 : PySem.W.nsIn K mainGlobals "list" = some none)
    (z7 : PySem.W.nsIn K mainGlobals "str" = some none)
    (z8 : PySem.W.nsIn K mainGlobals "range" = some none)
    (z9 : PySem.W.nsIn K mainGlobals "sorted" = some none)
    (z10 : PySem.W.nsIn K mainGlobals "set" = some none)
    (z11 : PySem.W.nsIn K mainGlobals "enumerate" = some none)
    (mm : PySem.W.nsIn K mainGlobals "MOST_LAMPS" = some (some (.int 9 tm))) :
    ∃ fd : FuncData, (∀ (s : Shared) (v : Value), BindsTo s fd ⟨[v], []⟩ [("_law_script", v)]) ∧ ∀ base : Heap, K.In base → base.Ns mainGlobals mg → FnOk l.prog w K mg base CX0 7 fa fd ["_law_script"] (sp_law K) := by
  have e := hfa.symm.trans (PySem.W.mg_of X G a28)
  cases e
  have F1 := fun_mk (st := s_is_in) l1 c1 k1
  have D_is_in : Has K mg "is_in" s_is_in ["value", "least", "most"] := ⟨_, _, F1, PySem.W.mg_of X G a1, F1.binds (ps := ["value", "least", "most"]) fun _ _ _ _ _ _ us hl => match us, hl with | [_, _, _], _ => rfl⟩
  have F2 := fun_mk (st := s_is_arrow) l2 c2 k2
  have D_is_arrow : Has K mg "is_arrow" s_is_arrow ["value", "many"] := ⟨_, _, F2, PySem.W.mg_of X G a2, F2.binds (ps := ["value", "many"]) fun _ _ _ _ _ _ us hl => match us, hl with | [_, _], _ => rfl⟩
  have F3 := fun_mk (st := s_need_web) l3 c3 k3
  have D_need_web : Has K mg "need_web" s_need_web ["web"] := ⟨_, _, F3, PySem.W.mg_of X G a3, F3.binds (ps := ["web"]) fun _ _ _ _ _ _ us hl => match us, hl with | [_], _ => rfl⟩
  have F4 := fun_mk (st := s_need_burning) l4 c4 k4
  have D_need_burning : Has K mg "need_burning" s_need_burning ["web", "burning"] := ⟨_, _, F4, PySem.W.mg_of X G a4, F4.binds (ps := ["web", "burning"]) fun _ _ _ _ _ _ us hl => match us, hl with | [_, _], _ => rfl⟩
  have F5 := fun_mk (st := s_need_both) l5 c5 k5
  have D_need_both : Has K mg "need_both" s_need_both ["web", "burning"] := ⟨_, _, F5, PySem.W.mg_of X G a5, F5.binds (ps := ["web", "burning"]) fun _ _ _ _ _ _ us hl => match us, hl with | [_, _], _ => rfl⟩
  have F6 := fun_mk (st := s_need_two) l6 c6 k6
  have D_need_two : Has K mg "need_two" s_need_two ["web", "one", "other"] := ⟨_, _, F6, PySem.W.mg_of X G a6, F6.binds (ps := ["web", "one", "other"]) fun _ _ _ _ _ _ us hl => match us, hl with | [_, _, _], _ => rfl⟩
  have F7 := fun_mk (st := s_led_from) l7 c7 k7
  have D_led_from : Has K mg "led_from" s_led_from ["web", "some"] := ⟨_, _, F7, PySem.W.mg_of X G a7, F7.binds (ps := ["web", "some"]) fun _ _ _ _ _ _ us hl => match us, hl with | [_, _], _ => rfl⟩
  have F8 := fun_mk (st := s_turned_in) l8 c8 k8
  have D_turned_in : Has K mg "turned_in" s_turned_in ["web"] := ⟨_, _, F8, PySem.W.mg_of X G a8, F8.binds (ps := ["web"]) fun _ _ _ _ _ _ us hl => match us, hl with | [_], _ => rfl⟩
  have F9 := fun_mk (st := s_comes_in) l9 c9 k9
  have D_comes_in : Has K mg "comes_in" s_comes_in ["web", "one", "other"] := ⟨_, _, F9, PySem.W.mg_of X G a9, F9.binds (ps := ["web", "one", "other"]) fun _ _ _ _ _ _ us hl => match us, hl with | [_, _, _], _ => rfl⟩
  have F10 := fun_mk (st := s_light_in) l10 c10 k10
  have D_light_in : Has K mg "light_in" s_light_in ["web", "burning"] := ⟨_, _, F10, PySem.W.mg_of X G a10, F10.binds (ps := ["web", "burning"]) fun _ _ _ _ _ _ us hl => match us, hl with | [_, _], _ => rfl⟩
  have F11 := fun_mk (st := s_quench_in) l11 c11 k11
  have D_quench_in : Has K mg "quench_in" s_quench_in ["web", "burning"] := ⟨_, _, F11, PySem.W.mg_of X G a11, F11.binds (ps := ["web", "burning"]) fun _ _ _ _ _ _ us hl => match us, hl with | [_, _], _ => rfl⟩
  have F12 := fun_mk (st := s_changed) l12 c12 k12
  have D_changed : Has K mg "changed" s_changed ["burning", "lamp"] := ⟨_, _, F12, PySem.W.mg_of X G a12, F12.binds (ps := ["burning", "lamp"]) fun _ _ _ _ _ _ us hl => match us, hl with | [_, _], _ => rfl⟩
  have F13 := fun_mk (st := s_doable) l13 c13 k13
  have D_doable : Has K mg "doable" s_doable ["web", "burning"] := ⟨_, _, F13, PySem.W.mg_of X G a13, F13.binds (ps := ["web", "burning"]) fun _ _ _ _ _ _ us hl => match us, hl with | [_, _], _ => rfl⟩
  have F14 := fun_mk (st := s_steps_from) l14 c14 k14
  have D_steps_from : Has K mg "steps_from" s_steps_from ["web", "burning"] := ⟨_, _, F14, PySem.W.mg_of X G a14, F14.binds (ps := ["web", "burning"]) fun _ _ _ _ _ _ us hl => match us, hl with | [_, _], _ => rfl⟩
  have F15 := fun_mk (st := s_steps_to) l15 c15 k15
  have D_steps_to : Has K mg "steps_to" s_steps_to ["web", "burning"] := ⟨_, _, F15, PySem.W.mg_of X G a15, F15.binds (ps := ["web", "burning"]) fun _ _ _ _ _ _ us hl => match us, hl with | [_, _], _ => rfl⟩
  have F16 := fun_mk (st := s_way_between) l16 c16 k16
  have D_way_between : Has K mg "way_between" s_way_between ["web", "one", "other"] := ⟨_, _, F16, PySem.W.mg_of X G a16, F16.binds (ps := ["web", "one", "other"]) fun _ _ _ _ _ _ us hl => match us, hl with | [_, _, _], _ => rfl⟩
  have F17 := fun_mk (st := s_ways_count) l17 c17 k17
  have D_ways_count : Has K mg "ways_count" s_ways_count ["web", "one", "other"] := ⟨_, _, F17, PySem.W.mg_of X G a17, F17.binds (ps := ["web", "one", "other"]) fun _ _ _ _ _ _ us hl => match us, hl with | [_, _, _], _ => rfl⟩
  have F18 := fun_mk (st := s_law_taken) l18 c18 k18
  have D_law_taken : Has K mg "_law_taken" s_law_taken ["_law_row", "_law_many"] := ⟨_, _, F18, PySem.W.mg_of X G a18, F18.binds (ps := ["_law_row", "_law_many"]) fun _ _ _ _ _ _ us hl => match us, hl with | [_, _], _ => rfl⟩
  have F19 := fun_mk (st := s_law_pick) l19 c19 k19
  have D_law_pick : Has K mg "_law_pick" s_law_pick ["_law_row", "_law_things"] := ⟨_, _, F19, PySem.W.mg_of X G a19, F19.binds (ps := ["_law_row", "_law_things"]) fun _ _ _ _ _ _ us hl => match us, hl with | [_, _], _ => rfl⟩
  have F20 := fun_mk (st := s_law_web) l20 c20 k20
  have D_law_web : Has K mg "_law_web" s_law_web ["_law_row", "_law_most"] := ⟨_, _, F20, PySem.W.mg_of X G a20, F20.binds (ps := ["_law_row", "_law_most"]) fun _ _ _ _ _ _ us hl => match us, hl with | [_, _], _ => rfl⟩
  have F21 := fun_mk (st := s_law_burning) l21 c21 k21
  have D_law_burning : Has K mg "_law_burning" s_law_burning ["_law_row", "_law_many"] := ⟨_, _, F21, PySem.W.mg_of X G a21, F21.binds (ps := ["_law_row", "_law_many"]) fun _ _ _ _ _ _ us hl => match us, hl with | [_, _], _ => rfl⟩
  have F22 := fun_mk (st := s_law_changed) l22 c22 k22
  have D_law_changed : Has K mg "_law_changed" s_law_changed ["_law_burning_here", "_law_lamp"] := ⟨_, _, F22, PySem.W.mg_of X G a22, F22.binds (ps := ["_law_burning_here", "_law_lamp"]) fun _ _ _ _ _ _ us hl => match us, hl with | [_, _], _ => rfl⟩
  have F23 := fun_mk (st := s_law_light) l23 c23 k23
  have D_law_light : Has K mg "_law_light" s_law_light ["_law_web_here", "_law_burning_here"] := ⟨_, _, F23, PySem.W.mg_of X G a23, F23.binds (ps := ["_law_web_here", "_law_burning_here"]) fun _ _ _ _ _ _ us hl => match us, hl with | [_, _], _ => rfl⟩
  have F24 := fun_mk (st := s_law_quench) l24 c24 k24
  have D_law_quench : Has K mg "_law_quench" s_law_quench ["_law_web_here", "_law_burning_here"] := ⟨_, _, F24, PySem.W.mg_of X G a24, F24.binds (ps := ["_law_web_here", "_law_burning_here"]) fun _ _ _ _ _ _ us hl => match us, hl with | [_, _], _ => rfl⟩
  have F25 := fun_mk (st := s_law_after) l25 c25 k25
  have D_law_after : Has K mg "_law_after" s_law_after ["_law_web_here", "_law_burning_here"] := ⟨_, _, F25, PySem.W.mg_of X G a25, F25.binds (ps := ["_law_web_here", "_law_burning_here"]) fun _ _ _ _ _ _ us hl => match us, hl with | [_, _], _ => rfl⟩
  have F26 := fun_mk (st := s_law_from) l26 c26 k26
  have D_law_from : Has K mg "_law_from" s_law_from ["_law_web_here", "_law_burning_here"] := ⟨_, _, F26, PySem.W.mg_of X G a26, F26.binds (ps := ["_law_web_here", "_law_burning_here"]) fun _ _ _ _ _ _ us hl => match us, hl with | [_, _], _ => rfl⟩
  have F27 := fun_mk (st := s_law_alike) l27 c27 k27
  have D_law_alike : Has K mg "_law_alike" s_law_alike ["_law_found", "_law_due"] := ⟨_, _, F27, PySem.W.mg_of X G a27, F27.binds (ps := ["_law_found", "_law_due"]) fun _ _ _ _ _ _ us hl => match us, hl with | [_, _], _ => rfl⟩
  have F28 := fun_mk (st := s_law) l28 c28 k28
  have T : Bi mg := ⟨PySem.W.mg_none_of X G z1, PySem.W.mg_none_of X G z2, PySem.W.mg_none_of X G z3, PySem.W.mg_none_of X G z4, PySem.W.mg_none_of X G z5, PySem.W.mg_none_of X G z6, PySem.W.mg_none_of X G z7, PySem.W.mg_none_of X G z8, PySem.W.mg_none_of X G z9, PySem.W.mg_none_of X G z10, PySem.W.mg_none_of X G z11, ⟨_, PySem.W.mg_of X G mm⟩⟩
  refine ⟨PySem.W.fnOf "law" "law" (defArgs s_law) (defBody s_law) (defScope s_law) .none kV28 dc28 pm28 an28 cd28 ct28, fun s v => .of_eq rfl, fun base _ _ => ?_⟩
  have C_is_in := ok_is_in (P := l.prog) (w := w) (base := base) T D_is_in
  have C_is_arrow := ok_is_arrow (P := l.prog) (w := w) (base := base) T D_is_arrow C_is_in
  have C_need_web := ok_need_web (P := l.prog) (w := w) (base := base) T D_need_web C_is_in C_is_arrow
  have C_need_burning := ok_need_burning (P := l.prog) (w := w) (base := base) T D_need_burning C_is_in
  have C_need_both := ok_need_both (P := l.prog) (w := w) (base := base) D_need_both C_need_web C_need_burning
  have C_need_two := ok_need_two (P := l.prog) (w := w) (base := base) D_need_two C_need_both C_need_burning
  have C_led_from := ok_led_from (P := l.prog) (w := w) (base := base) T D_led_from
  have C_turned_in := ok_turned_in (P := l.prog) (w := w) (base := base) T D_turned_in
  have C_comes_in := ok_comes_in (P := l.prog) (w := w) (base := base) T D_comes_in C_led_from C_turned_in
  have C_light_in := ok_light_in (P := l.prog) (w := w) (base := base) T D_light_in
  have C_quench_in := ok_quench_in (P := l.prog) (w := w) (base := base) T D_quench_in
  have C_changed := ok_changed (P := l.prog) (w := w) (base := base) T D_changed
  have C_doable := ok_doable (P := l.prog) (w := w) (base := base) T D_doable C_light_in C_quench_in
  have C_steps_from := ok_steps_from (P := l.prog) (w := w) (base := base) T D_steps_from C_doable C_changed
  have C_steps_to := ok_steps_to (P := l.prog) (w := w) (base := base) T D_steps_to C_turned_in C_steps_from
  have C_way_between := ok_way_between (P := l.prog) (w := w) (base := base) T D_way_between C_need_two C_comes_in C_steps_to C_doable C_changed
  have C_ways_count := ok_ways_count (P := l.prog) (w := w) (base := base) T D_ways_count C_need_two C_comes_in C_steps_to C_doable C_changed
  have C_law_taken := ok_law_taken (P := l.prog) (w := w) (base := base) T D_law_taken
  have C_law_pick := ok_law_pick (P := l.prog) (w := w) (base := base) T D_law_pick C_law_taken
  have C_law_burning := ok_law_burning (P := l.prog) (w := w) (base := base) T D_law_burning C_law_taken C_law_pick
  have C_law_web := ok_law_web (P := l.prog) (w := w) (base := base) T D_law_web C_law_taken C_law_pick
  have C_law_changed := ok_law_changed (P := l.prog) (w := w) (base := base) T D_law_changed
  have C_law_light := ok_law_light (P := l.prog) (w := w) (base := base) T D_law_light
  have C_law_quench := ok_law_quench (P := l.prog) (w := w) (base := base) T D_law_quench
  have C_law_after := ok_law_after (P := l.prog) (w := w) (base := base) T D_law_after C_law_light C_law_quench C_law_changed
  have C_law_from := ok_law_from (P := l.prog) (w := w) (base := base) T D_law_from C_law_after
  have C_law_alike1 := ok_law_alike1 (P := l.prog) (w := w) (base := base) T D_law_alike
  have C_law_alike := ok_law_alike (P := l.prog) (w := w) (base := base) T D_law_alike C_law_alike1
  exact ok_law T F28 C_way_between C_ways_count C_law_pick C_law_web C_law_burning C_law_after C_law_from C_law_alike
end Pl
open PySem PySem.W PyProof.Rows
set_option maxHeartbeats 0 in
theorem PySem.Challenge.cw_passlights_k13_whole_least_ways_holds : PySem.Challenge.rw_passlights_k13_whole_least_ways.Holds := by
  w_on; o_law; k_head; (case hw => w_witness2)
  k_fill
  refine L2.walk_of (l := PySem.Challenge.rw_passlights_k13_whole_least_ways) (n := 63) (k := 7) (x := "_law_script") (CX := fun _ => L2.CX0) (sp := fun w => Pl.sp_law _) rfl (by decide) rfl ⟨rfl, by decide, by decide⟩ (fun w h Y => PySem.W.kIn_of Y) ?F (fun _ _ a ns hl _ hS => ⟨a, ns, rfl, hS, hl, fun _ => rfl⟩) (fun _ _ _ _ _ h => h)
  case F =>
    intro w mg fa h KX G hmg
    refine' Pl.all_mk KX G hmg ?a1 ?l1 ?c1 ?k1 ?a2 ?l2 ?c2 ?k2 ?a3 ?l3 ?c3 ?k3 ?a4 ?l4 ?c4 ?k4 ?a5 ?l5 ?c5 ?k5 ?a6 ?l6 ?c6 ?k6 ?a7 ?l7 ?c7 ?k7 ?a8 ?l8 ?c8 ?k8 ?a9 ?l9 ?c9 ?k9 ?a10 ?l10 ?c10 ?k10 ?a11 ?l11 ?c11 ?k11 ?a12 ?l12 ?c12 ?k12 ?a13 ?l13 ?c13 ?k13 ?a14 ?l14 ?c14 ?k14 ?a15 ?l15 ?c15 ?k15 ?a16 ?l16 ?c16 ?k16 ?a17 ?l17 ?c17 ?k17 ?a18 ?l18 ?c18 ?k18 ?a19 ?l19 ?c19 ?k19 ?a20 ?l20 ?c20 ?k20 ?a21 ?l21 ?c21 ?k21 ?a22 ?l22 ?c22 ?k22 ?a23 ?l23 ?c23 ?k23 ?a24 ?l24 ?c24 ?k24 ?a25 ?l25 ?c25 ?k25 ?a26 ?l26 ?c26 ?k26 ?a27 ?l27 ?c27 ?k27 ?a28 ?l28 ?c28 ?k28 ?z1 ?z2 ?z3 ?z4 ?z5 ?z6 ?z7 ?z8 ?z9 ?z10 ?z11 ?mm
    (case a1 => k_is); (case l1 => k_is); (case c1 => k_is); (case k1 => k_is)
    (case a2 => k_is); (case l2 => k_is); (case c2 => k_is); (case k2 => k_is)
    (case a3 => k_is); (case l3 => k_is); (case c3 => k_is); (case k3 => k_is)
    (case a4 => k_is); (case l4 => k_is); (case c4 => k_is); (case k4 => k_is)
    (case a5 => k_is); (case l5 => k_is); (case c5 => k_is); (case k5 => k_is)
    (case a6 => k_is); (case l6 => k_is); (case c6 => k_is); (case k6 => k_is)
    (case a7 => k_is); (case l7 => k_is); (case c7 => k_is); (case k7 => k_is)
    (case a8 => k_is); (case l8 => k_is); (case c8 => k_is); (case k8 => k_is)
    (case a9 => k_is); (case l9 => k_is); (case c9 => k_is); (case k9 => k_is)
    (case a10 => k_is); (case l10 => k_is); (case c10 => k_is); (case k10 => k_is)
    (case a11 => k_is); (case l11 => k_is); (case c11 => k_is); (case k11 => k_is)
    (case a12 => k_is); (case l12 => k_is); (case c12 => k_is); (case k12 => k_is)
    (case a13 => k_is); (case l13 => k_is); (case c13 => k_is); (case k13 => k_is)
    (case a14 => k_is); (case l14 => k_is); (case c14 => k_is); (case k14 => k_is)
    (case a15 => k_is); (case l15 => k_is); (case c15 => k_is); (case k15 => k_is)
    (case a16 => k_is); (case l16 => k_is); (case c16 => k_is); (case k16 => k_is)
    (case a17 => k_is); (case l17 => k_is); (case c17 => k_is); (case k17 => k_is)
    (case a18 => k_is); (case l18 => k_is); (case c18 => k_is); (case k18 => k_is)
    (case a19 => k_is); (case l19 => k_is); (case c19 => k_is); (case k19 => k_is)
    (case a20 => k_is); (case l20 => k_is); (case c20 => k_is); (case k20 => k_is)
    (case a21 => k_is); (case l21 => k_is); (case c21 => k_is); (case k21 => k_is)
    (case a22 => k_is); (case l22 => k_is); (case c22 => k_is); (case k22 => k_is)
    (case a23 => k_is); (case l23 => k_is); (case c23 => k_is); (case k23 => k_is)
    (case a24 => k_is); (case l24 => k_is); (case c24 => k_is); (case k24 => k_is)
    (case a25 => k_is); (case l25 => k_is); (case c25 => k_is); (case k25 => k_is)
    (case a26 => k_is); (case l26 => k_is); (case c26 => k_is); (case k26 => k_is)
    (case a27 => k_is); (case l27 => k_is); (case c27 => k_is); (case k27 => k_is)
    (case a28 => k_is); (case l28 => k_is); (case c28 => k_is); (case k28 => k_is)
    (case z1 => k_is); (case z2 => k_is); (case z3 => k_is); (case z4 => k_is); (case z5 => k_is); (case z6 => k_is); (case z7 => k_is); (case z8 => k_is); (case z9 => k_is); (case z10 => k_is); (case z11 => k_is)
    (case mm => k_is)
