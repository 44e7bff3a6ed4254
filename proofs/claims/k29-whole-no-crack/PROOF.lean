import PyProof.Rows.All
import Wide.All
import OpenK.AllK
import Wide.FinOn
import PyProof.EqAt
import PyProof.EqKinds
import PyProof.TupleCall
import KE.KDictCopyH
import KE.KDictSum
import HandS.ForMost
import HandS.SortRule
import HandS.NoneIn
import PyProof.DictCompW
import HandS.DictComp
import HandS.Deep
import HandS.Defaults
import PySem.Challenge.RW_braemantle_k29_whole_no_crack
set_option Elab.async false
set_option linter.all false
set_option maxRecDepth 100000
set_option maxHeartbeats 4000000
-- BrExt1
namespace L2
open PySem PySem.Spec PyProof.Rows
section
variable {prog : Program} {w : World} {A : Around} {E : Value → Shared → Prop} {s : Shared} {kk : KeyKind prog w Key}
/-- None is not found among keys that are tuples -/
theorem br_find_none {d : Addr} {o : Obj} {es ep} {h : Int} {xs : List (List Key × Addr × Value)} {Q : Option Nat → Shared → Prop} (hu : A.units < cLine)
    (ho : s.heap.get? d = some o) (hd : o.data = .dict es ep) (he : es.toList = xs.map (entryOfKey (tupleKind kk))) (his : ∀ x ∈ xs, (tupleKind kk).is s.heap x.1 x.2.1)
    (hq : Q none s) : wpAny (model prog w) A (dictFind d .none h) Q E s := by
  have hmem : ∀ e ∈ es, ∃ x ∈ xs, e = entryOfKey (tupleKind kk) x := by
    intro e hin
    have : e ∈ xs.map (entryOfKey (tupleKind kk)) := he ▸ Array.mem_toList_iff.mpr hin
    obtain ⟨x, hx, rfl⟩ := List.mem_map.mp this
    exact ⟨x, hx, rfl⟩
  have hat : ∀ (i : Nat) (e : DictEntry), es[i]? = some e → ∃ (k : List Key) (b : Addr), e.key = .ref b ∧ (tupleKind kk).is s.heap k b := fun i e hi => by
    obtain ⟨x, hx, rfl⟩ := hmem e (Array.mem_of_getElem? hi)
    exact ⟨x.1, x.2.1, rfl, his x hx⟩
  have hst : ∀ v ∈ (placesWithHash es.size (fun i => es[i]?.map (·.hash)) h).filterMap (fun i => es[i]?.map (·.key)), ∃ k b, v = .ref b ∧ (tupleKind kk).is s.heap k b := by
    intro v hv
    obtain ⟨i, _, hi⟩ := List.mem_filterMap.mp hv
    cases hei : es[i]? with
    | none => rw [hei] at hi; cases hi
    | some e =>
      rw [hei] at hi
      obtain rfl : e.key = v := by simpa using hi
      exact hat i e hei
  unfold dictFind
  try with_reducible refine wpAny_holding ?_
  refine wpAny_bind (wpAny_dictEntries ho hd ?_)
  dsimp only
  have hplace : ∀ i ∈ placesWithHash es.size (fun i => es[i]?.map (·.hash)) h, ∃ e, es[i]? = some e := fun i hi => by
    unfold placesWithHash at hi
    have hlt := List.mem_range.mp (List.mem_filter.mp hi).1
    exact ⟨es[i], Array.getElem?_eq_getElem hlt⟩
  by_cases hall : ((Value.none :: (placesWithHash es.size (fun i => es[i]?.map (·.hash)) h).filterMap (fun i => es[i]?.map (·.key))).all carriedByValue) = true
  · rw [if_pos hall]
    have hnil : placesWithHash es.size (fun i => es[i]?.map (·.hash)) h = [] := by
      cases hp : placesWithHash es.size (fun i => es[i]?.map (·.hash)) h with
      | nil => rfl
      | cons i r =>
        obtain ⟨e, hei⟩ := hplace i (by rw [hp]; exact List.mem_cons_self)
        obtain ⟨k, b, ek, _⟩ := hat i e hei
        rw [hp, List.filterMap_cons, hei] at hall
        simp [ek, carriedByValue] at hall
    rw [hnil]
    unfold dictWalkPlain
    first
      | exact wpAny_bind (wpAny_bind (wpAny_forIn_nil (wpAny_pure hq)))
      | (refine wpAny_bind ?_
         simp only [List.forIn_nil]
         first
           | exact wpAny_bind (wpAny_pure (wpAny_pure (wpAny_pure hq)))
           | exact wpAny_bind (wpAny_pure (wpAny_pure hq))
           | exact wpAny_pure (wpAny_pure hq))
  · rw [if_neg hall]
    have quiet : ∀ {Q : Bool → Shared → Prop}, Q false s → wpAny (model prog w) A (tableMayTell .none ((placesWithHash es.size (fun i => es[i]?.map (·.hash)) h).filterMap (fun i => es[i]?.map (·.key)))) Q E s := fun {Q} hQ => by
      unfold tableMayTell
      split
      · exact wpAny_pure hQ
      · refine wpAny_bind (wpAny_pure ?_)
        simp only [Bool.not_true, Bool.false_eq_true, if_false]
        refine wpAny_bind ?_
        refine wpAny_forIn_list _ (fun rest r s' => s' = s ∧ r = (none, ()) ∧ ∀ v ∈ rest, ∃ k' b, v = .ref b ∧ (tupleKind kk).is s.heap k' b) _ ?_ ?_ _ _ ⟨rfl, rfl, hst⟩
        · rintro x rest r s' ⟨rfl, rfl, hr⟩
          obtain ⟨k', b, rfl, hb⟩ := hr x List.mem_cons_self
          refine wpAny_bind ((tupleKind kk).quiet hb ?_)
          simp only [Bool.not_true, Bool.false_eq_true, if_false]
          exact wpAny_pure ⟨rfl, rfl, fun v hv => hr v (List.mem_cons_of_mem _ hv)⟩
        · rintro r s' ⟨rfl, rfl, _⟩
          exact wpAny_pure hQ
    by_cases hone : (((placesWithHash es.size (fun i => es[i]?.map (·.hash)) h).filterMap (fun i => es[i]?.map (·.key))) == [Value.none]) = true <;>
    (first | rw [if_pos hone] | rw [if_neg hone]) <;> (first | refine wpAny_bind (wpAny_pure ?_) | refine wpAny_bind (quiet ?_)) <;> (
      rw [if_neg (by simp)]
      refine wpAny_bind ?_
      refine wpAny_forIn_list _ (fun rest b s' => s' = s ∧ b = (none, none)) _ ?_ ?_ _ _ ⟨rfl, rfl⟩
      · rintro x rest b s' ⟨rfl, rfl⟩
        cases hex : es[x]? with
        | none => exact wpAny_pure ⟨rfl, rfl⟩
        | some e =>
          dsimp only
          by_cases hh : (e.hash == h) = true
          · rw [if_pos hh]
            obtain ⟨k, b, ek, hb⟩ := hat x e hex
            obtain ⟨ot, items, n, h1, h2, h3, _⟩ := hb
            rw [ek]
            refine wpAny_bind (wpAny_dictEpoch ho hd (wpAny_bind (SeqAt.EqAt.tuple_none (items := items) ⟨ot, h1, h2, n, h3⟩ hu _ _ _ _ (wpAny_bind (wpAny_dictEpoch ho hd ?_)))))
            show wpAny _ _ (if (ep != ep) = true then _ else _) _ E _
            rw [if_neg (by simp)]
            simp only [Bool.false_eq_true, if_false]
            refine wpAny_bind (wpAny_rule ?_)
            first | rw [if_neg (by simp)] | skip
            first
              | exact wpAny_pure ⟨rfl, rfl⟩
              | exact wpAny_bind (wpAny_pure (wpAny_pure ⟨rfl, rfl⟩))
          · rw [if_neg hh]
            exact wpAny_pure ⟨rfl, rfl⟩
      · rintro b s' ⟨rfl, rfl⟩
        exact wpAny_pure hq)
end

section
variable {X : Cx} {pins : List (Addr × Obj)} {σ : St} {H : Hp} {s : Shared} {a : Addr} {kvs : List (List Key × V)} {A : Around} {E : Value → Shared → Prop}
theorem br_inNone {Q : Value → Shared → Prop} (hu : A.units + 1 < cLine) (I : Inv X pins σ H s) (e : Rd H a (.dT kvs)) (h : ∀ s', Inv X pins σ H s' → Q (.bool false) s') : wpAny (model X.prog X.w) A (compareOp .In .none (.ref a)) Q E s := by
  obtain ⟨_, hd, xs, _, hm⟩ := dt_rd I.hok e
  show wpAny _ _ (do return .bool (← contains (.ref a) .none)) Q E s
  refine wpAny_bind ?_
  unfold contains
  try with_reducible refine wpAny_holding ?_
  refine wpAny_bind (wpAny_specialOf hm.typeIs slot_dict_contains.lookup ?_)
  show wpAny _ _ (if (some (Value.builtin "dict.__contains__") == some Value.none) = true then _ else _) _ E s
  rw [if_neg (by rw [beq_builtin_none]; exact Bool.false_ne_true)]
  refine wpAny_bind (wpAny_callSpecialUnlessNone?_slot (name := Str.ofString "__contains__") hm.typeIs slot_dict_contains
    (wpAny_call_entry slot_dict_contains hm.typeIs entry_dict_contains ?_ (args_dict_contains _ _)))
  show wpAny _ _ (dictGet a .none >>= _) _ _ s
  obtain ⟨o, es, ep, ho, hc, hdt, he, his, hn⟩ := id hm
  have hg : ∀ {Q' : Option Value → Shared → Prop} {E' : Value → Shared → Prop}, (∀ s', Inv X pins σ H s' → Q' none s') → wpAny (model X.prog X.w) A.in1 (dictGet a .none) Q' E' s := fun {Q' E'} hq => by
    unfold dictGet
    try with_reducible refine wpAny_holding ?_
    have I' : Inv X pins σ H { s with toks := s.toks + 1 } := I.tok _
    refine wpAny_bind ((noneKind X.prog X.w).pyHash (k := none) rfl (wpAny_bind (br_find_none (s := { s with toks := s.toks + 1 }) (kk := mixKind X.prog X.w) (tupleKind_room_in1 (knd := mixKind X.prog X.w) hu) ho hdt he his ?_)))
    exact wpAny_pure (hq _ I')
  refine wpAny_bind (hg fun s' I' => ?_)
  show wpAny _ _ (Builtin.Dict.pendingKey? a .none >>= _) _ _ _
  exact wpAny_bind (wpAny_pendingKey_other hd (wpAny_pure ⟨_, rfl, wpAny_truthy_bool (wpAny_pure (h _ I'))⟩))
end
/-- y in d, y may be None (d's keys tuples) -/
def brInN (ty td : TE) : TE := fun σ H Q => ty σ H fun y H1 => td σ H1 fun x H2 => (∃ a o, x = .ref a ∧ DGet H2 a y o ∧ Q (.bl o.isSome) H2) ∨ ∃ a kvs, x = .ref a ∧ y = .non ∧ Rd H2 a (.dT kvs) ∧ Q (.bl false) H2
theorem br_pc_inN {X : Cx} {o i : Expr} {td ty : TE} (hu : X.A.units + 1 < cLine) (hi : PE X i ty) (ho : PE X o td) : PC X .In i o (brInN ty td) := by
  refine ⟨fun pins s σ H Q I h => ?_⟩
  refine thn (hi.run pins s σ H _ I h) fun iv s1 ⟨y, H1, I1, ry, q1⟩ => thn (ho.run pins s1 σ H1 _ I1 q1) fun u s2 ⟨x, H2, I2, rx, q2⟩ => ?_
  rcases q2 with ⟨a, ov, ex, g, q2⟩ | ⟨a, kvs, ex, ey, g, q2⟩
  · subst ex
    obtain rfl : u = Value.ref a := rx
    exact d_in hu I2 g ry fun s3 I3 => ⟨.bl ov.isSome, H2, I3, rfl, q2⟩
  · subst ex ey
    obtain rfl : u = Value.ref a := rx
    obtain rfl : iv = Value.none := ry
    exact br_inNone hu I2 g fun s3 I3 => ⟨.bl false, H2, I3, rfl, q2⟩
end L2

-- BrExt2
namespace L2
open PySem PySem.Spec PyProof.Rows
/-! ### sorted: pairs of ints, told with their places -/
/-- the pair at a place -/
def brAt (H : Hp) (v : V) : Int × Int := match v with
  | .ref a => match H a with
    | some (.tup [.int i, .int j]) => (i, j)
    | _ => (0, 0)
  | _ => (0, 0)
theorem brAt_of {H : Hp} {a : Addr} {i j : Int} (h : H a = some (.tup [.int i, .int j])) : brAt H (.ref a) = (i, j) := by
  show (match H a with
    | some (.tup [.int i, .int j]) => (i, j)
    | _ => (0, 0)) = (i, j)
  rw [h]
abbrev PP := Addr × Int × Int
def ppsV (L : List PP) : List V := L.map fun q => V.ref q.1
def PPsAt (H : Hp) (L : List PP) : Prop := ∀ q ∈ L, H q.1 = some (.tup [.int q.2.1, .int q.2.2])
abbrev PPsUp (L : List PP) : Prop := L.Pairwise fun p q => SrtO.lexB q.2 p.2 = false
theorem pps_back {H : Hp} {L : List PP} (hL : PPsAt H L) : L.map (fun q => (q.1, brAt H (.ref q.1))) = L := by
  have : ∀ q ∈ L, (q.1, brAt H (.ref q.1)) = id q := fun q hq => by rw [brAt_of (hL q hq)]; rfl
  rw [List.map_congr_left this, List.map_id]
def adOf (v : V) : Addr := match v with
  | .ref a => a
  | _ => 0
theorem pps_out {H : Hp} {L : List PP} {ys : List V} (hL : PPsAt H L) (hp : ys.Perm (ppsV L)) (hs : SrtO.Srtd (ltP (brAt H)) ys) :
    ∃ L' : List PP, L'.Perm L ∧ PPsUp L' ∧ PPsAt H L' ∧ ys = ppsV L' := by
  have hm : (ys.map fun v => (adOf v, brAt H v)).Perm L := by
    have q := hp.map (fun v => (adOf v, brAt H v))
    unfold ppsV at q
    rw [List.map_map] at q
    have e : L.map ((fun v => (adOf v, brAt H v)) ∘ fun q : PP => V.ref q.1) = L := pps_back hL
    rw [e] at q
    exact q
  refine ⟨ys.map fun v => (adOf v, brAt H v), hm, List.pairwise_map.mpr hs, fun q hq => hL q (hm.mem_iff.mp hq), ?_⟩
  unfold ppsV
  rw [List.map_map]
  have : ∀ v ∈ ys, ((fun q : PP => V.ref q.1) ∘ fun v => (adOf v, brAt H v)) v = id v := fun v hv => by
    obtain ⟨q, _, e⟩ := List.mem_map.mp (hp.mem_iff.mp hv)
    subst e
    rfl
  rw [List.map_congr_left this, List.map_id]
section
variable {X : Cx}
def brSortL (K : PySem.W.Frag) : List V → Hp → VK → Prop := fun vs H Q => ∃ (a : Addr) (L : List PP), vs = [V.ref a] ∧ SqL K H a (ppsV L) ∧ PPsAt H L ∧
  ∀ L' p, L'.Perm L → PPsUp L' → PPsAt H L' → H p = none → Q (.ref p) (upd H p (.lst (ppsV L')))
theorem br_sortL : CallR X (.builtin "sorted") (brSortL X.K) := by
  intro pins s σ H vs us Q I r h
  obtain ⟨a, L, ev, hs, hL, q⟩ := h
  refine cr_sortedPO pins s σ H vs us Q I r ⟨a, ppsV L, brAt H, ev, hs, fun x hx => ?_, fun ys p h1 h2 hp => ?_⟩
  · obtain ⟨z, hz, e⟩ := List.mem_map.mp hx
    subst e
    exact ⟨z.1, rfl, by rw [brAt_of (hL z hz)]; exact hL z hz⟩
  · obtain ⟨L', g1, g2, g3, rfl⟩ := pps_out hL h2.perm h1
    exact q L' p g1 g2 g3 hp
def ppsK (L : List PP) : List (List Key) := L.map fun q => [Sum.inl q.2.1, Sum.inl q.2.2]
def brSortT : List V → Hp → VK → Prop := fun vs H Q => ∃ (a : Addr) (kvs : List (List Key × V)), vs = [V.ref a] ∧ Rd H a (.dT kvs) ∧ (∀ p ∈ kvs, ∃ i j : Int, p.1 = [Sum.inl i, Sum.inl j]) ∧
  ∀ L' p, (ppsK L').Perm (kvs.map (·.1)) → PPsUp L' → PPsAt H L' → H p = none → Q (.ref p) (upd H p (.lst (ppsV L')))
theorem kt_refs {H : Hp} : ∀ {kvs : List (List Key × V)} {xs : List (List Key × Addr × Value)}, KT H kvs xs → (∀ p ∈ kvs, ∃ i j : Int, p.1 = [Sum.inl i, Sum.inl j]) →
    ∃ L : List PP, PPsAt H L ∧ ppsK L = kvs.map (·.1) ∧ L.map (·.1) = xs.map (fun x => x.2.1)
  | _, _, .nil, _ => ⟨[], (fun _ h => by cases h), rfl, rfl⟩
  | _, _, .cons (a := p) (b := x) h t, hk => by
    obtain ⟨L, g1, g2, g3⟩ := kt_refs t fun p hp => hk p (List.mem_cons_of_mem _ hp)
    obtain ⟨i, j, e⟩ := hk p List.mem_cons_self
    refine ⟨(x.2.1, i, j) :: L, fun q hq => ?_, ?_, ?_⟩
    · rcases List.mem_cons.mp hq with e1 | hq
      · subst e1
        have := h.2.1
        rw [e] at this
        exact this
      · exact g1 q hq
    · unfold ppsK at g2 ⊢
      rw [List.map_cons, List.map_cons, g2, e]
    · rw [List.map_cons, List.map_cons, g3]
theorem refs_list : ∀ {us : List Value} {as : List Addr}, us.length = as.length → (∀ (j : Nat) (v : Value), us[j]? = some v → ∃ a, as[j]? = some a ∧ v = .ref a) → us = as.map Value.ref
  | [], [], _, _ => rfl
  | u :: us, a :: as, hl, h => by
    obtain ⟨b, e1, e2⟩ := h 0 u rfl
    cases (Option.some.inj e1 : a = b)
    rw [List.map_cons, e2, refs_list (us := us) (as := as) (by simpa using hl) fun j v e => by
      obtain ⟨b, e1, e2⟩ := h (j + 1) v (by simpa using e)
      exact ⟨b, by simpa using e1, e2⟩]
  | [], _ :: _, hl, _ => by simp at hl
  | _ :: _, [], hl, _ => by simp at hl
theorem br_sortT (hcalm : X.calm = true) : CallR X (.builtin "sorted") brSortT := by
  intro pins s σ H vs us Q I r h
  obtain ⟨a, kvs, ev, hd, hk, q⟩ := h
  subst ev
  obtain ⟨u, eu, rx⟩ := vals1 r
  subst eu
  cases rx
  obtain ⟨z, lo, xs, rel, o, es, ep, ho, hx, hdt, he, his, hn⟩ := dt_rd I.hok hd
  obtain ⟨L, hL, hLk, hLa⟩ := kt_refs rel hk
  have hraw : s.heap.DictRaw a es ep := ⟨o, ho, hx, hdt⟩
  have hes : es.size = xs.length := size_of_entries he
  have hkl : kvs.length = xs.length := Paired.length rel
  have hsz : es.size ≤ sizeLine := by rw [hes, ← hkl]; exact z
  refine Calls.call_function_entry PyProof.Rows.kind_sorted PyProof.Rows.plain_sorted PyProof.Rows.entry_sorted (PyProof.Rows.args_sorted1 _) ?_
  unfold Builtin.«sorted»
  refine wpAny_bind (m := checkCount "sorted" 1 1 _) (wpAny_pure ?_)
  refine wpAny_bind (PySem.W.kdu_collect (A := X.A.in1) (KdlSrc.rawDict (es := es) (ep := ep) lo) (I.ok.hd hcalm) hraw hsz fun h' tk acc hkp hacc => ?_)
  have hLl : L.length = xs.length := by
    have := congrArg List.length hLa
    rw [List.length_map, List.length_map] at this
    exact this
  have hacc' : acc.toList = (L.map (·.1)).map Value.ref := refs_list (by rw [Array.length_toList, hacc.1, hes, List.length_map, hLl]) fun j v e => by
    obtain ⟨hi, ev⟩ := hacc.2 j v (by rw [← Array.getElem?_toList]; exact e)
    have e2 := entry_at he j
    rw [Array.getElem?_eq_getElem hi] at e2
    have hj : j < xs.length := by rw [← hes]; exact hi
    rw [List.getElem?_eq_getElem hj] at e2
    have e3 : es[j] = entryOfKey (tupleKind (mixKind X.prog X.w)) xs[j] := Option.some.inj e2
    refine ⟨xs[j].2.1, ?_, ?_⟩
    · rw [hLa, List.getElem?_map, List.getElem?_eq_getElem hj]
      rfl
    · rw [ev, e3]
      rfl
  have I1 : Inv X pins σ H { s with heap := h', toks := tk } := I.kept hkp
  have hal : acc.toList.length = es.size := by rw [Array.length_toList, hacc.1]
  refine wpAny_bind (wpAny_newList ?_ (by rw [hal]; exact hsz))
  have hoL : (h'.push (seqObj "list" acc.toList.toArray 0)).get? h'.objs.size = some (seqObj "list" acc.toList.toArray 0) := Heap.get?_push_size _ rfl
  show wpAny _ _ _ _ _ { s with heap := h'.push (seqObj "list" acc.toList.toArray 0), toks := tk }
  have hrv : Vals (ppsV L) acc.toList := by
    rw [hacc']
    have : ∀ M : List PP, Vals (ppsV M) ((M.map (·.1)).map Value.ref) := by
      intro M
      induction M with
      | nil => exact .nil
      | cons m M ih => exact .cons rfl ih
    exact this L
  have hp : ∀ v ∈ acc.toList, Srt.IsPair (h'.push (seqObj "list" acc.toList.toArray 0)) v (brAt H (backV v)).1 (brAt H (backV v)).2 := fun v hv => by
    rw [hacc', List.map_map] at hv
    obtain ⟨m, hm, rfl⟩ := List.mem_map.mp hv
    have hmt := hL m hm
    obtain ⟨_, its2, r2, o2, ho2, hc2, n2, hd2⟩ := I1.hok _ _ hmt
    obtain ⟨u1, u2, rfl, ri, rj⟩ := vals2 r2
    obtain ⟨t1, rfl⟩ := ri
    obtain ⟨t2, rfl⟩ := rj
    have eb : brAt H (backV ((Value.ref ∘ fun x : PP => x.1) m)) = (m.2.1, m.2.2) := brAt_of hmt
    rw [eb]
    exact ⟨m.1, o2, t1, t2, n2, rfl, Heap.get?_push_of_some _ ho2, hc2, hd2⟩
  have hz2 : acc.toList.length ≤ sizeLine := by rw [hal]; exact hsz
  refine wpAny_bind (wpAny_holding (wpAny_call_entry PyProof.Rows.slot_list_sort ⟨_, hoL, rfl⟩ PyProof.Rows.entry_list_sort
    (SrtO.list_sort_ord (s := { s with heap := h'.push (seqObj "list" acc.toList.toArray 0), toks := tk }) (SrtO.swo_lex fun v => brAt H (backV v)) hoL hz2
      (fun h2 => SrtO.pairs_sortableO (s := { s with heap := h'.push (seqObj "list" acc.toList.toArray 0), toks := tk }) (by omega) hp fun o e => ?_) fun out hs hb => ⟨_, rfl, ?_⟩) (PyProof.Rows.args_list_sort _)))
  · have e' : some o = some (seqObj "list" acc.toList.toArray 0) := e.symm.trans hoL
    cases e'
    intro c
    exact absurd (Value.type.inj c) (by decide)
  · obtain ⟨e', he'⟩ := PyProof.Rows.sortedHeap_at (vs := acc.toList) (out := out.toArray) hoL
    have h3 : ∀ u ∈ out, ∃ a, u = Value.ref a := fun u hu => by
      have := hb.perm.mem_iff.mp hu
      rw [hacc'] at this
      obtain ⟨m, _, e⟩ := List.mem_map.mp this
      exact ⟨m, e.symm⟩
    have hbk : acc.toList.map backV = ppsV L := by
      rw [hacc', List.map_map, List.map_map]
      rfl
    have hperm : (out.map backV).Perm (ppsV L) := by
      rw [← hbk]
      exact hb.perm.map backV
    obtain ⟨L', g1, g2, g3, g4⟩ := pps_out hL hperm (SrtO.srtd_map hs)
    have hlen : (ppsV L').length ≤ sizeLine := by
      rw [← g4, List.length_map, hb.perm.length_eq]
      exact hz2
    have hv : Vals (ppsV L') out := by
      rw [← g4]
      exact vals_back h3
    refine wpAny_pure ⟨_, rfl, .ref h'.objs.size, upd H h'.objs.size (.lst (ppsV L')), I1.laid (t' := tk) (fun b u e => ?_) (Nat.le_refl _)
      (show ObjOk X.prog X.w _ _ _ (.lst (ppsV L')) from ⟨hlen, out, e', hv, he'⟩), rfl, q L' _ ?_ g2 g3 (I1.hok.fresh (Nat.le_refl _))⟩
    · have hb' : b < h'.objs.size := Heap.lt_size e
      rw [PyProof.Rows.sortedHeap_old (Nat.ne_of_lt hb') (by rw [size_push']; exact Nat.lt_succ_of_lt hb')]
      exact Heap.get?_push_of_some _ e
    · rw [← hLk]
      exact g1.map _
end
end L2

-- BrComp
/-! comprehensions with any number of clauses, list or dict, clause by clause -/
namespace L2
open PySem PySem.Spec PyProof.Rows

/-- what a turn does with a kept item: from here to K -/
abbrev BW := (Shared → Prop) → (Value → Shared → Prop) → Shared → Prop
/-- one turn of clause i of e, by what it does with a kept item -/
def TurnBy (M : Model) (A : Around) (e : Expr) (i : Nat) (acc : Value) (env : Env) (t : Expr) (ifs : List Expr) (bw : BW) : Prop :=
  ∀ (it : Value) (s : Shared) (R : PySem.Fin → Shared → Prop) (E : Value → Shared → Prop),
    wpAny M A (pyNext it) (fun r s1 => match r with
      | none => R (.done .next) s1
      | some v => wpAny M A (letOwnedTupleGo t it v) (fun _ s2 => wpAny M A (assign t env v) (fun _ s3 =>
          wpAny M A (forIn ifs true fun c r => if r = true then do let ok ← isTrue c env (eval c env); pure (ForInStep.yield ok) else pure (ForInStep.yield r)) (fun ok s4 =>
            if ok = true then bw (fun s5 => R (.again (.compLoop e i it acc env)) s5) E s4 else R (.again (.compLoop e i it acc env)) s4) E s3) E s2) E s1) E s →
    wpAny M A (compTurn e i it acc env) R E s
/-- the item appended -/
def bwApp (M : Model) (A : Around) (elt : Expr) (acc : Value) (env : Env) : BW := fun K E s => wpAny M A (eval elt env) (fun x s1 => wpAny M A (call (.builtin "list.append") [acc, x]) (fun _ s2 => K s2) E s1) E s
/-- the next clause's own loop -/
def bwSub (M : Model) (A : Around) (e : Expr) (i : Nat) (iter : Expr) (acc : Value) (env : Env) : BW := fun K E s => wpAny M A (eval iter env) (fun x s1 => wpAny M A (pyIter x) (fun it1 s2 =>
  codeAny M A (.compStart e i it1 acc env) (fun r s' => match r with
    | .ok _ => K s'
    | .error _ => False) s2) E s1) E s
/-- the key and the value put into the dict -/
def bwPut (M : Model) (A : Around) (kx vx : Expr) (d : Addr) (env : Env) : BW := fun K E s => wpAny M A (eval kx env) (fun k s1 => wpAny M A (eval vx env) (fun v s2 => wpAny M A (dictSet d k v) (fun _ s3 => K s3) E s2) E s1) E s

section
variable {prog : Program} {w : World} {A : Around} {elt t0 i0 t1 i1 t2 i2 kx vx : Expr} {f0 f1 f2 : List Expr} {scope : Scope} {pos : Pos} {acc : Value} {env : Env}
theorem ct3_0 (it : Value) : compTurn (.ListComp elt [⟨t0, i0, f0, 0⟩, ⟨t1, i1, f1, 0⟩, ⟨t2, i2, f2, 0⟩] scope pos) 0 it acc env = (do
      standAt i0.pos
      match ← pyNext it with
      | none => pure (.done .next)
      | some v =>
        letOwnedTupleGo t0 it v
        assign t0 env v
        let mut ok := true
        for c in f0 do
          if ok then ok ← isTrue c env (eval c env)
        if ok then
          let x ← eval i1 env
          standAt i1.pos
          let x ← foldedSetIterable i1 env x
          let _ ← runOwn (.compStart (.ListComp elt [⟨t0, i0, f0, 0⟩, ⟨t1, i1, f1, 0⟩, ⟨t2, i2, f2, 0⟩] scope pos) 1 (← holding [x] (pyIter x)) acc env) env
        again (.compLoop (.ListComp elt [⟨t0, i0, f0, 0⟩, ⟨t1, i1, f1, 0⟩, ⟨t2, i2, f2, 0⟩] scope pos) 0 it acc env)) := by rfl
theorem ct3_1 (it : Value) : compTurn (.ListComp elt [⟨t0, i0, f0, 0⟩, ⟨t1, i1, f1, 0⟩, ⟨t2, i2, f2, 0⟩] scope pos) 1 it acc env = (do
      standAt i1.pos
      match ← pyNext it with
      | none => pure (.done .next)
      | some v =>
        letOwnedTupleGo t1 it v
        assign t1 env v
        let mut ok := true
        for c in f1 do
          if ok then ok ← isTrue c env (eval c env)
        if ok then
          let x ← eval i2 env
          standAt i2.pos
          let x ← foldedSetIterable i2 env x
          let _ ← runOwn (.compStart (.ListComp elt [⟨t0, i0, f0, 0⟩, ⟨t1, i1, f1, 0⟩, ⟨t2, i2, f2, 0⟩] scope pos) 2 (← holding [x] (pyIter x)) acc env) env
        again (.compLoop (.ListComp elt [⟨t0, i0, f0, 0⟩, ⟨t1, i1, f1, 0⟩, ⟨t2, i2, f2, 0⟩] scope pos) 1 it acc env)) := by rfl
theorem ct3_2 (it : Value) : compTurn (.ListComp elt [⟨t0, i0, f0, 0⟩, ⟨t1, i1, f1, 0⟩, ⟨t2, i2, f2, 0⟩] scope pos) 2 it acc env = (do
      standAt i2.pos
      match ← pyNext it with
      | none => pure (.done .next)
      | some v =>
        letOwnedTupleGo t2 it v
        assign t2 env v
        let mut ok := true
        for c in f2 do
          if ok then ok ← isTrue c env (eval c env)
        if ok then
          (do let _ ← call (.builtin "list.append") [acc, ← eval elt env])
        again (.compLoop (.ListComp elt [⟨t0, i0, f0, 0⟩, ⟨t1, i1, f1, 0⟩, ⟨t2, i2, f2, 0⟩] scope pos) 2 it acc env)) := by rfl
theorem turn3_2 : TurnBy (model prog w) A (.ListComp elt [⟨t0, i0, f0, 0⟩, ⟨t1, i1, f1, 0⟩, ⟨t2, i2, f2, 0⟩] scope pos) 2 acc env t2 f2 (bwApp (model prog w) A elt acc env) := by
  intro it s R E h
  rw [ct3_2]
  refine wpAny_bind (wpAny_standAt (wpAny_bind (thn h fun r s1 h1 => ?_)))
  cases r with
  | none => exact wpAny_pure h1
  | some v =>
    refine wpAny_bind (thn h1 fun _ s2 h2 => wpAny_bind (thn h2 fun _ s3 h3 => wpAny_bind (thn h3 fun ok s4 h4 => ?_)))
    cases ok with
    | false => exact wpAny_pure h4
    | true => exact wpAny_bind (wpAny_bind (thn (show wpAny _ _ _ _ _ _ from h4) fun x s5 h5 => wpAny_bind (thn h5 fun _ s6 h6 => wpAny_pure (wpAny_pure h6))))
theorem turn3_0 (hs : ∀ x, foldedSetIterable i1 env x = pure x) : TurnBy (model prog w) A (.ListComp elt [⟨t0, i0, f0, 0⟩, ⟨t1, i1, f1, 0⟩, ⟨t2, i2, f2, 0⟩] scope pos) 0 acc env t0 f0
    (bwSub (model prog w) A (.ListComp elt [⟨t0, i0, f0, 0⟩, ⟨t1, i1, f1, 0⟩, ⟨t2, i2, f2, 0⟩] scope pos) 1 i1 acc env) := by
  intro it s R E h
  rw [ct3_0]
  refine wpAny_bind (wpAny_standAt (wpAny_bind (thn h fun r s1 h1 => ?_)))
  cases r with
  | none => exact wpAny_pure h1
  | some v =>
    refine wpAny_bind (thn h1 fun _ s2 h2 => wpAny_bind (thn h2 fun _ s3 h3 => wpAny_bind (thn h3 fun ok s4 h4 => ?_)))
    cases ok with
    | false => exact wpAny_pure h4
    | true =>
      refine wpAny_bind (thn (show wpAny _ _ _ _ _ _ from h4) fun x s5 h5 => wpAny_bind (wpAny_standAt (wpAny_bind (wpAny_of_eq (hs x) (wpAny_bind (wpAny_holding (thn h5 fun it1 s6 h6 => ?_)))))))
      refine wpAny_bind (wpAny_runOwn ?_)
      rw [Around.mark_none]
      refine codeAny_mono h6 fun r s' hr => ?_
      cases r with
      | ok f => first | exact wpAny_pure hr | exact wpAny_bind (wpAny_pure (wpAny_pure hr))
      | error e => exact hr.elim
theorem turn3_1 (hs : ∀ x, foldedSetIterable i2 env x = pure x) : TurnBy (model prog w) A (.ListComp elt [⟨t0, i0, f0, 0⟩, ⟨t1, i1, f1, 0⟩, ⟨t2, i2, f2, 0⟩] scope pos) 1 acc env t1 f1
    (bwSub (model prog w) A (.ListComp elt [⟨t0, i0, f0, 0⟩, ⟨t1, i1, f1, 0⟩, ⟨t2, i2, f2, 0⟩] scope pos) 2 i2 acc env) := by
  intro it s R E h
  rw [ct3_1]
  refine wpAny_bind (wpAny_standAt (wpAny_bind (thn h fun r s1 h1 => ?_)))
  cases r with
  | none => exact wpAny_pure h1
  | some v =>
    refine wpAny_bind (thn h1 fun _ s2 h2 => wpAny_bind (thn h2 fun _ s3 h3 => wpAny_bind (thn h3 fun ok s4 h4 => ?_)))
    cases ok with
    | false => exact wpAny_pure h4
    | true =>
      refine wpAny_bind (thn (show wpAny _ _ _ _ _ _ from h4) fun x s5 h5 => wpAny_bind (wpAny_standAt (wpAny_bind (wpAny_of_eq (hs x) (wpAny_bind (wpAny_holding (thn h5 fun it1 s6 h6 => ?_)))))))
      refine wpAny_bind (wpAny_runOwn ?_)
      rw [Around.mark_none]
      refine codeAny_mono h6 fun r s' hr => ?_
      cases r with
      | ok f => first | exact wpAny_pure hr | exact wpAny_bind (wpAny_pure (wpAny_pure hr))
      | error e => exact hr.elim
theorem turnD {d : Addr} : TurnBy (model prog w) A (.DictComp kx vx [⟨t0, i0, f0, 0⟩] scope pos) 0 (.ref d) env t0 f0 (bwPut (model prog w) A kx vx d env) := by
  intro it s R E h
  rw [compTurn_dict]
  refine wpAny_bind (wpAny_standAt (wpAny_bind (thn h fun r s1 h1 => ?_)))
  cases r with
  | none => exact wpAny_pure h1
  | some v =>
    refine wpAny_bind (thn h1 fun _ s2 h2 => wpAny_bind (thn h2 fun _ s3 h3 => wpAny_bind (thn h3 fun ok s4 h4 => ?_)))
    cases ok with
    | false => exact wpAny_pure h4
    | true =>
      exact wpAny_bind (wpAny_bind (thn (show wpAny _ _ _ _ _ _ from h4) fun kv s5 h5 => wpAny_bind (wpAny_holding (thn h5 fun vv s6 h6 => wpAny_bind (wpAny_standAt (wpAny_holding (thn h6 fun _ s7 h7 => wpAny_pure h7)))))))
/-- a later clause begins -/
theorem start_at {gs : List Comprehension} {i : Nat} {g : Comprehension} {it acc : Value} {R : Result → Shared → Prop} {s : Shared} (hg : (clausesOf (.ListComp elt gs scope pos))[i]? = some g) (ha : (g.is_async != 0) = false)
    (h0 : codeAny (model prog w) A (.compLoop (.ListComp elt gs scope pos) i it acc env) R s)
    (h : wpAny (model prog w) A (pyIter it) (fun it' s' => codeAny (model prog w) A (.compLoop (.ListComp elt gs scope pos) i it' acc env) R s') (notedBy (model prog w) A env fun x s' => R (.error x) s') s) :
    codeAny (model prog w) A (.compStart (.ListComp elt gs scope pos) i it acc env) R s := by
  refine codeAny_of_tree ?_
  show wpAny _ _ ((compStart (.ListComp elt gs scope pos) i it acc env).onRaise (fun x => do noteFrame x env; standAt theWindowsPlace)) _ _ s
  refine wpAny_notedAt ?_
  unfold compStart
  rw [hg]
  simp only [Option.elim_some, ha, Bool.false_eq_true, if_false]
  refine wpAny_bind (wpAny_askSetting (wpAny_ite ?_))
  split
  · first
      | exact wpAny_bind (wpAny_pure (wpAny_pure (And.intro rfl h0)))
      | exact wpAny_pure (And.intro rfl h0)
  · refine wpAny_bind (wpAny_rule (wpAny_bind (wpAny_standAt (wpAny_bind (wpAny_mono h (fun it' s' h' => wpAny_pure (And.intro rfl h')) fun _ _ x => x)))))
end

/-! ### a clause's loop -/
/-- what a turn does, by slots and heap: reached is Nx, at slots that know what was known but for vs -/
structure PBody (B : Cx) (bw : BW) (vs : List Nat) (t : St → Hp → (Hp → Prop) → Prop) : Prop where
  run : ∀ (pins : List (Addr × Obj)) (s : Shared) (σ : St) (H : Hp) (Nx : Hp → Prop), Inv B pins σ H s → t σ H Nx →
    bw (fun s' => ∃ σ' H', Inv B pins σ' H' s' ∧ σ'.length = σ.length ∧ (∀ (j : Nat) v, (wipe σ vs)[j]? = some (some v) → σ'[j]? = some (some v)) ∧ Nx H') (fun _ _ => False) s
/-- a clause: W by the turn and a measure -/
def tClause (J : It) (g : TG) (tt : TT) (tb : St → Hp → (Hp → Prop) → Prop) (vs : List Nat) (σ : St) (H : Hp) (Nx : Hp → Prop) : Prop :=
  ∃ W : Nat → Nat → Hp → Prop, (∃ m, W 0 m H) ∧ ∀ i m H, W i m H → (J.stop i H ∧ Nx H) ∨ (J.go i H ∧ ∃ N : Hp → Prop, (∀ H', N H' → ∃ m', m' < m ∧ W (i + 1) m' H') ∧
    ∀ x H', J.yld i H x H' → g x (wipe σ vs) H' fun σ2 H2 => wipe σ2 vs = wipe σ vs ∧ tt σ2 H2 fun b H3 => if b = true then tb σ2 H3 N else N H3)
/-- where a clause's loop ends -/
def CEnd (B : Cx) (pins : List (Addr × Obj)) (σ : St) (vs : List Nat) (Nx : Hp → Prop) (r : Result) (s' : Shared) : Prop :=
  match r with
  | .ok f => f = .next ∧ ∃ σ' H', Inv B pins σ' H' s' ∧ σ'.length = σ.length ∧ (∀ (j : Nat) v, (wipe σ vs)[j]? = some (some v) → σ'[j]? = some (some v)) ∧ Nx H'
  | .error _ => False
theorem br_cloop {B : Cx} {e : Expr} {i : Nat} {acc : Value} {t : Expr} {ifs : List Expr} {bw : BW} {g : TG} {tt : TT} {tb : St → Hp → (Hp → Prop) → Prop} {vs vs1 : List Nat} {fp : List Addr} {tn : Nat → Heap → Prop} {J : It} {it : Addr}
    {pins : List (Addr × Obj)} {σ : St} {H : Hp} {s : Shared} {Nx : Hp → Prop}
    (hq : ∀ v, (Code.compLoop e i v acc B.env).quiet = true) (hden : ∀ v, (model B.prog B.w).den (Code.compLoop e i v acc B.env) = (compTurn e i v acc B.env).onRaise (fun x => do noteFrame x B.env; theTreesLotGoes x))
    (hund : ∀ v, B.A.under (Code.compLoop e i v acc B.env) = B.A)
    (hmono : ∀ (K K' : Shared → Prop) (E E' : Value → Shared → Prop) s, (∀ s', K s' → K' s') → (∀ v s', E v s' → E' v s') → bw K E s → bw K' E' s)
    (hc : B.calm = true) (hE : B.xe = fun _ _ => False) (hx : TurnBy (model B.prog B.w) B.A e i acc B.env t ifs bw) (hg : PG B t g) (ht : PTs B ifs tt) (hb : PBody B bw vs1 tb) (hv : ∀ j ∈ vs1, j ∈ vs)
    (T : Turn B.prog B.w B.K t J fp it tn) (I : Inv B pins σ H s) (st : tn 0 s.heap) (hf : ∀ b ∈ fp, FpOk B pins H b) (h : tClause J g tt tb vs σ H Nx) :
    codeAny (model B.prog B.w) B.A (.compLoop e i (.ref it) acc B.env) (CEnd B pins σ vs Nx) s := by
  obtain ⟨W, ⟨m0, w0⟩, turn⟩ := h
  have stat : ∀ {H' : Hp}, (∀ b ∈ fp, H' b = none) → ∀ b ∈ fp, FpOk B pins H' b := fun hn b hb => ⟨hn b hb, (hf b hb).2⟩
  have fal : ∀ {α : Type} {m : Sem α} {Q Q' : α → Shared → Prop} {E : Value → Shared → Prop} {s : Shared}, wpAny (model B.prog B.w) B.A m Q B.xe s → (∀ a s, Q a s → Q' a s) → wpAny (model B.prog B.w) B.A m Q' E s := fun h k => wpAny_mono h k fun _ _ z => by
    rw [hE] at z
    exact z.elim
  refine codeAny_loop (hq _) (fun n s' => ∃ j H', Inv B pins (wipe σ vs) H' s' ∧ tn j s'.heap ∧ (∀ b ∈ fp, H' b = none) ∧ W j n H') ?_ m0
    ⟨0, H, I.weak (wipe_length σ vs) (fun j v e => (wipe_some e).1), st, fun b hb => (hf b hb).1, w0⟩
  rintro n s3 ⟨j, H3, I3, st3, n3, w3⟩
  rw [hden, hund]
  refine wpAny_noted (hx _ _ _ _ ?_)
  rcases turn j n H3 w3 with ⟨stop, nx⟩ | ⟨go, N, hN, step⟩
  · refine thnF (T.done B rfl rfl rfl hc j pins s3 (wipe σ vs) H3 (fun _ _ => False) I3 (stat n3) st3 stop) fun r s4 ⟨hr, I4⟩ => ?_
    subst hr
    exact ⟨rfl, _, H3, I4, wipe_length σ vs, fun j v e => e, nx⟩
  · refine thnF (T.item B rfl rfl rfl hc j pins s3 (wipe σ vs) H3 (fun _ _ => False) I3 (stat n3) st3 go) fun r s4 ⟨u, hr, h4⟩ => ?_
    subst hr
    refine thnF h4 fun _ s5 ⟨x, H5, I5, r5, y5, st5, n5⟩ => ?_
    have I5' := I5.pinned (stat n5) (T.obj _ _ st5)
    refine fal (hg.run _ s5 (wipe σ vs) H5 x u _ I5' r5 (step x H5 y5)) fun _ s6 ⟨σ6, H6, I6, hw6, q6⟩ => ?_
    refine fal (ht.run _ s6 σ6 H6 _ I6 q6) fun b s7 ⟨H7, I7, q7⟩ => ?_
    have hl6 : (wipe σ vs).length = σ6.length := by rw [← hw6, wipe_length]
    have hk6 : ∀ (j : Nat) v, (wipe σ vs)[j]? = some (some v) → (wipe σ6 vs1)[j]? = some (some v) := fun j v e => by
      rw [← hw6] at e
      obtain ⟨e1, e2⟩ := wipe_some e
      rw [wipe_out fun z => e2 (hv j z)]
      exact e1
    have again : ∀ {σ8 : St} {H8 : Hp} {s8 : Shared}, Inv B (pins ++ pinsAt fp s5.heap) σ8 H8 s8 → σ8.length = σ6.length → (∀ (j : Nat) v, (wipe σ6 vs1)[j]? = some (some v) → σ8[j]? = some (some v)) → N H8 →
        ∃ m, m < n ∧ ∃ j H', Inv B pins (wipe σ vs) H' s8 ∧ tn j s8.heap ∧ (∀ b ∈ fp, H' b = none) ∧ W j m H' := fun {σ8 H8 s8} I8 hl8 hk8 n8 => by
      obtain ⟨m', hm, w8⟩ := hN H8 n8
      have pin' : ∀ b ∈ fp, ∀ o, s5.heap.get? b = some o → s8.heap.get? b = some o ∧ H8 b = none := fun b hb o e =>
        let z := I8.pin (b, o) (List.mem_append_right _ (List.mem_append_right _ (mem_pinsAt hb e)))
        ⟨z.1, z.2.1⟩
      refine ⟨m', hm, j + 1, H8, I8.unpinned.weak (hl6.trans hl8.symm) (fun j v e => hk8 j v (hk6 j v e)), T.keep _ _ _ st5 fun b hb o e => (pin' b hb o e).1, fun b hb => ?_, w8⟩
      obtain ⟨o, e, _⟩ := T.obj _ _ st5 b hb
      exact (pin' b hb o e).2
    cases b with
    | false =>
      refine ⟨rfl, again I7 rfl (fun j v e => (wipe_some e).1) ?_⟩
      simpa using q7
    | true =>
      refine hmono _ _ _ _ _ (fun s8 ⟨σ8, H8, I8, l8, k8, n8⟩ => ⟨rfl, again I8 l8 k8 n8⟩) (fun v s' z => z.elim) (hb.run _ s7 σ6 H7 N I7 (by simpa using q7))
end L2

-- BrComp2
namespace L2
open PySem PySem.Spec PyProof.Rows

/-! ### what a kept item does -/
def tbApp (te : TE) (D : Addr) : St → Hp → (Hp → Prop) → Prop := fun σ H Nx => te σ H fun y H' => ∃ acc, H' D = some (.lst acc) ∧ acc.length < sizeLine ∧ Nx (upd H' D (.lst (acc ++ [y])))
def tbPut (tk tv : TE) (D : Addr) : St → Hp → (Hp → Prop) → Prop := fun σ H Nx => tk σ H fun y H4 => tv σ H4 fun z H5 => ∃ kvs k b, y = .ref b ∧ H5 D = some (.dT kvs) ∧ H5 b = some (.tup (k.map kV)) ∧ kvs.length < sizeLine ∧ Nx (upd H5 D (.dT (putK kvs k z)))
def tbSub (wi : TI) (g : TG) (tt : TT) (tb : St → Hp → (Hp → Prop) → Prop) (vs : List Nat) : St → Hp → (Hp → Prop) → Prop := fun σ H Nx => wi σ H fun J H1 => tClause J g tt tb vs σ H1 Nx
section
variable {B : Cx} {elt : Expr} {te tk tv : TE} {D : Addr} {vs : List Nat}
theorem PBody.ends {pins : List (Addr × Obj)} {σ : St} {H : Hp} {s : Shared} {Nx : Hp → Prop} (I : Inv B pins σ H s) (n : Nx H) :
    ∃ σ' H', Inv B pins σ' H' s ∧ σ'.length = σ.length ∧ (∀ (j : Nat) v, (wipe σ vs)[j]? = some (some v) → σ'[j]? = some (some v)) ∧ Nx H' := ⟨σ, H, I, rfl, fun j v e => (wipe_some e).1, n⟩
theorem pb_app (hE : B.xe = fun _ _ => False) (he : PE B elt te) : PBody B (bwApp (model B.prog B.w) B.A elt (.ref D) B.env) vs (tbApp te D) := by
  refine ⟨fun pins s σ H Nx I h => ?_⟩
  have q := he.run pins s σ H _ I h
  rw [hE] at q
  exact thnF q fun z s1 ⟨y, H1, I1, r1, acc, hD, hz, n⟩ => app_ok I1 hD hz r1 fun s2 I2 => PBody.ends I2 n
theorem br_dictSet {pins : List (Addr × Obj)} {σ : St} {H : Hp} {s : Shared} {E : Value → Shared → Prop} {kvs : List (List Key × V)} {k : List Key} {b : Addr} {v : V} {r : Value} {Q : Unit → Shared → Prop} (hu : B.A.units < cLine) (I : Inv B pins σ H s)
    (hD : H D = some (.dT kvs)) (hb : H b = some (.tup (k.map kV))) (hz : kvs.length < sizeLine) (rv : RelV v r) (h : ∀ s', Inv B pins σ (upd H D (.dT (putK kvs k v))) s' → Q () s') : wpAny (model B.prog B.w) B.A (dictSet D (.ref b) r) Q E s := by
  obtain ⟨z, hs, xs, rel, dd⟩ := dt_of I.hok hD
  have hl : (putK kvs k v).length ≤ sizeLine := by have := length_putK kvs k v; omega
  refine wpAny_dictSet_heap (hsz := by rw [← Paired.length rel]; exact z) (show (tupleKind (mixKind B.prog B.w)).room B.A from hu) (key_of I.hok hb) dd fun h' dd' hsb => h _ ?_
  obtain ⟨q, es, ep, hq, h2, h3, h4, _, h5⟩ := dd'
  refine d_write I (by rw [hD]; exact True.intro) hsb ⟨q, hq⟩ ⟨hl, hs, _, (rel.put k hb rv).keeps fun c ys ec => ?_, q, es, ep, hq, h2, h3, h4, h5⟩
  rw [upd_ne (ne_of ec hD (fun z => nomatch z))]
  exact ec
theorem pb_put {kx vx : Expr} (hE : B.xe = fun _ _ => False) (hu : B.A.units < cLine) (hk : PE B kx tk) (hv : PE B vx tv) : PBody B (bwPut (model B.prog B.w) B.A kx vx D B.env) vs (tbPut tk tv D) := by
  refine ⟨fun pins s σ H Nx I h => ?_⟩
  have q := hk.run pins s σ H _ I h
  rw [hE] at q
  refine thnF q fun z s1 ⟨y, H1, I1, r1, q1⟩ => ?_
  have q2 := hv.run pins s1 σ H1 _ I1 q1
  rw [hE] at q2
  refine thnF q2 fun z2 s2 ⟨y2, H2, I2, r2, kvs, k, b, ey, hD, hb, hz, n⟩ => ?_
  subst ey
  obtain rfl : z = Value.ref b := r1
  exact br_dictSet hu I2 hD hb hz r2 fun s3 I3 => PBody.ends I3 n
theorem pb_sub {gs : List Comprehension} {scope : Scope} {pos : Pos} {i : Nat} {tg iter : Expr} {ifs : List Expr} {wi : TI} {g : TG} {tt : TT} {tb : St → Hp → (Hp → Prop) → Prop} {vs1 : List Nat} {bw : BW}
    (hcl : gs[i]? = some ⟨tg, iter, ifs, 0⟩)
    (hmono : ∀ (K K' : Shared → Prop) (E E' : Value → Shared → Prop) s, (∀ s', K s' → K' s') → (∀ v s', E v s' → E' v s') → bw K E s → bw K' E' s)
    (hc : B.calm = true) (hE : B.xe = fun _ _ => False) (hi : PI B tg iter wi) (hx : TurnBy (model B.prog B.w) B.A (.ListComp elt gs scope pos) i (.ref D) B.env tg ifs bw) (hg : PG B tg g) (ht : PTs B ifs tt) (hb : PBody B bw vs1 tb) (hv : ∀ j ∈ vs1, j ∈ vs) :
    PBody B (bwSub (model B.prog B.w) B.A (.ListComp elt gs scope pos) i iter (.ref D) B.env) vs (tbSub wi g tt tb vs) := by
  refine ⟨fun pins s σ H Nx I h => ?_⟩
  have q := hi.run pins s σ H _ I h
  rw [hE] at q
  refine thnF q fun xv s1 h1 => thnF h1 fun itv s2 h2 => ?_
  obtain ⟨it, fp, tn, J, H2, e, I2, T, st2, f2, hw⟩ := h2
  subst e
  have loop : codeAny (model B.prog B.w) B.A (.compLoop (.ListComp elt gs scope pos) i (.ref it) (.ref D) B.env) (fun r s' => match r with
      | .ok _ => ∃ σ' H', Inv B pins σ' H' s' ∧ σ'.length = σ.length ∧ (∀ (j : Nat) v, (wipe σ vs)[j]? = some (some v) → σ'[j]? = some (some v)) ∧ Nx H'
      | .error _ => False) s2 := by
    refine codeAny_mono (br_cloop (fun _ => rfl) (fun _ => rfl) (fun _ => rfl) hmono hc hE hx hg ht hb hv T I2 st2 f2 hw) fun r s' hr => ?_
    cases r with
    | ok f => exact hr.2
    | error _ => exact hr
  exact start_at (g := ⟨tg, iter, ifs, 0⟩) hcl rfl loop (T.self B.A 0 _ _ _ st2 loop)
theorem bw_mono_app {M : Model} {A : Around} {acc : Value} {env : Env} (K K' : Shared → Prop) (E E' : Value → Shared → Prop) (s : Shared) (hK : ∀ s', K s' → K' s') (hE : ∀ v s', E v s' → E' v s') (h : bwApp M A elt acc env K E s) : bwApp M A elt acc env K' E' s :=
  wpAny_mono h (fun _ _ h1 => wpAny_mono h1 (fun _ _ h2 => hK _ h2) hE) hE
theorem bw_mono_put {M : Model} {A : Around} {kx vx : Expr} {d : Addr} {env : Env} (K K' : Shared → Prop) (E E' : Value → Shared → Prop) (s : Shared) (hK : ∀ s', K s' → K' s') (hE : ∀ v s', E v s' → E' v s') (h : bwPut M A kx vx d env K E s) : bwPut M A kx vx d env K' E' s :=
  wpAny_mono h (fun _ _ h1 => wpAny_mono h1 (fun _ _ h2 => wpAny_mono h2 (fun _ _ h3 => hK _ h3) hE) hE) hE
theorem bw_mono_sub {M : Model} {A : Around} {e iter : Expr} {i : Nat} {acc : Value} {env : Env} (K K' : Shared → Prop) (E E' : Value → Shared → Prop) (s : Shared) (hK : ∀ s', K s' → K' s') (hE : ∀ v s', E v s' → E' v s') (h : bwSub M A e i iter acc env K E s) : bwSub M A e i iter acc env K' E' s := by
  refine wpAny_mono h (fun _ _ h1 => wpAny_mono h1 (fun _ _ h2 => codeAny_mono h2 fun r s' hr => ?_) hE) hE
  cases r with
  | ok f => exact hK _ hr
  | error _ => exact hr.elim
end

/-! ### the whole comprehension -/
section
variable {X : Cx}
def tComp (wi : TI) (g : TG) (tt : TT) (tb : Addr → St → Hp → (Hp → Prop) → Prop) (ho : HO) (vs : List Nat) : TE := fun σ H Q => wi σ H fun J H1 => ∀ D, H1 D = none → tClause J g tt (tb D) vs σ (upd H1 D ho) fun H' => Q (.ref D) H'
theorem br_comp {pins : List (Addr × Obj)} {s : Shared} {σ : St} {H : Hp} {Q : VK} {e tg iter : Expr} {ifs : List Expr} {gs : List Comprehension} {scope : Scope} {own : List (Str × Nat)} {vs1 : List Nat} {pos' : Pos} {wi : TI} {g : TG} {tt : TT} {tb : Addr → St → Hp → (Hp → Prop) → Prop}
    {newAcc : Sem Value} {ob : Obj} {ho : HO} {bw : Value → Env → BW} {use : Option (Value → Sem Unit)} {Qf : Value → Shared → Prop}
    (hcl : clausesOf e = ⟨tg, iter, ifs, 0⟩ :: gs) (hc : X.calm = true) (hN : X.N.Nodup) (I : Inv X pins σ H s) (hi : PI X tg iter wi) (ok : BlkOk X.N X.env.scope scope own) (hv : ∀ j ∈ vs1, j ∈ own.map (·.2))
    (hnew : ∀ (s : Shared) (R : Value → Shared → Prop), R (.ref s.heap.objs.size) { s with heap := s.heap.push ob } → wpAny (model X.prog X.w) X.A newAcc R X.xe s)
    (hob : ob.isFreed = false) (hoo : ∀ (H' : Hp) (h : Heap), sysModules < h.objs.size → ObjOk X.prog X.w H' (h.push ob) h.objs.size ho)
    (hq : ∀ v acc env, (Code.compLoop e 0 v acc env).quiet = true) (hden : ∀ v acc env, (model X.prog X.w).den (Code.compLoop e 0 v acc env) = (compTurn e 0 v acc env).onRaise (fun x => do noteFrame x env; theTreesLotGoes x))
    (hund : ∀ v acc env, X.A.under (Code.compLoop e 0 v acc env) = X.A)
    (hstart : ∀ (it acc : Value) (env : Env) (R : Result → Shared → Prop) (s : Shared), codeAny (model X.prog X.w) X.A (.compLoop e 0 it acc env) R s → wpAny (model X.prog X.w) X.A (pyIter it) (fun it' s' => codeAny (model X.prog X.w) X.A (.compLoop e 0 it' acc env) R s')
      (notedBy (model X.prog X.w) X.A env fun x s' => R (.error x) s') s → codeAny (model X.prog X.w) X.A (.compStart e 0 it acc env) R s)
    (hmono : ∀ (acc : Value) (env : Env) (K K' : Shared → Prop) (E E' : Value → Shared → Prop) s, (∀ s', K s' → K' s') → (∀ v s', E v s' → E' v s') → bw acc env K E s → bw acc env K' E' s)
    (hx : ∀ (D : Addr) (env : Env), TurnBy (model X.prog X.w) X.A e 0 (.ref D) env tg ifs (bw (.ref D) env))
    (hg : ∀ (s : Shared) (H : Hp) (C : Addr) (cl : List (Str × Addr)) (fp : List Addr), PG (X.blk s H scope (compEnvC scope cl C X.env) fp) tg g) (ht : ∀ (s : Shared) (H : Hp) (C : Addr) (cl : List (Str × Addr)) (fp : List Addr), PTs (X.blk s H scope (compEnvC scope cl C X.env) fp) ifs tt)
    (hb : ∀ (s : Shared) (H : Hp) (C : Addr) (cl : List (Str × Addr)) (fp : List Addr) (D : Addr), PBody (X.blk s H scope (compEnvC scope cl C X.env) fp) (bw (.ref D) (compEnvC scope cl C X.env)) vs1 (tb D))
    (hs : ∀ x, foldedSetIterable iter X.env x = pure x) (h : tComp wi g tt tb ho (own.map (·.2)) σ H Q)
    (hRR : ∀ D C s' m H', Inv X pins σ H' s' → Q (.ref D) H' → s'.heap.Ns C m → FpOk X pins H' C → compPost (model X.prog X.w) X.A X.xe use Qf (.ref D) C (.ok .next) s') :
    wpAny (model X.prog X.w) X.A (comprehension e scope X.env pos' newAcc false (eval iter X.env) use) Qf X.xe s := by
  have hfree : ∀ y ∈ scope.names, y.2 = .free → ∃ c, X.env.cells.lookup y.1 = some c := fun y hy z => (ok.free y hy z).elim (fun k => I.ok.has _ (.inl k)) fun k => I.ok.has _ (.inr k)
  refine wpAny_comprehension_free (use := use) hcl hs (closure_ok hfree) ok.kind (fun y hy z => by rw [ok.uniq y hy, z]) (thn (hi.run pins s σ H _ I h) fun xv s1 hx1 => thn hx1 fun itv s2 h2 => ?_)
  obtain ⟨it, fp, tn, J, H2, ei, I2, T, st2, f2, q⟩ := h2
  subst ei
  refine hnew s2 _ (newEnv_comp ?_)
  generalize hD : s2.heap.objs.size = D
  have hDn : H2 D = none := I2.hok.fresh (Nat.le_of_eq hD)
  have qD := q D hDn
  -- the new object
  generalize hs3 : ({ s2 with heap := s2.heap.push ob } : Shared) = s3
  have h3 : s3.heap = s2.heap.push ob := by rw [← hs3]
  have I3 : Inv X pins σ (upd H2 D ho) s3 := by
    rw [← hs3]
    refine I2.laid (t' := s2.toks) (fun b o z => Heap.get?_push_of_some _ z) (Nat.le_of_eq hD) ?_
    rw [← hD]
    exact hoo _ s2.heap I2.big
  have sz : ∀ b ∈ fp, b < s2.heap.objs.size := fun b hb => let ⟨o, z, _⟩ := T.obj _ _ st2 b hb; Heap.lt_size z
  have f3 : ∀ b ∈ fp, FpOk X pins (upd H2 D ho) b ∧ b < s3.heap.objs.size := fun b hb => by
    refine ⟨⟨?_, (f2 b hb).2⟩, by rw [h3, Heap.size_push]; exact Nat.lt_succ_of_lt (sz b hb)⟩
    rw [upd_ne (by rw [← hD]; exact Nat.ne_of_lt (sz b hb))]
    exact (f2 b hb).1
  have st3 : tn 0 s3.heap := T.keep _ _ _ st2 fun b _ o z => by rw [h3]; exact Heap.get?_push_of_some _ z
  have I4 := block_start I3 ok hN f3
  generalize hcc : cellsFrom (s3.heap.objs.size + 1) scope.names (cloFrom X.env.cells scope.names []) = cl at I4
  have pg := hg s3 (upd H2 D ho) s3.heap.objs.size cl fp
  have pt := ht s3 (upd H2 D ho) s3.heap.objs.size cl fp
  have pb := hb s3 (upd H2 D ho) s3.heap.objs.size cl fp D
  show codeAny _ _ (.compStart e 0 (.ref it) (.ref D) (compEnvC scope cl s3.heap.objs.size X.env)) (compPost (model X.prog X.w) X.A X.xe use Qf (.ref D) s3.heap.objs.size) { s3 with heap := pushCells (s3.heap.push { cls := .type "dict", data := .dict #[] }) scope.names }
  have hx0 := hx D (compEnvC scope cl s3.heap.objs.size X.env)
  generalize hce : compEnvC scope cl s3.heap.objs.size X.env = ce at I4 pg pt pb hx0 ⊢
  have cL : ce.locals = s3.heap.objs.size := by subst hce; rfl
  generalize hs4 : ({ s3 with heap := pushCells (s3.heap.push { cls := .type "dict", data := .dict #[] }) scope.names } : Shared) = s4 at I4 ⊢
  have st4 : tn 0 s4.heap := T.keep _ _ _ st3 fun b _ o z => by rw [← hs4]; exact pushCells_keeps _ _ _ _ (Heap.get?_push_of_some _ z)
  have fB : ∀ b ∈ fp, FpOk (X.blk s3 (upd H2 D ho) scope ce fp) [] (upd H2 D ho) b := fun b hb =>
    ⟨(f3 b hb).1.1, (I4.ok.exf b hb).1, I4.ok.exfs b hb, .inl hb, fun x c z => (I4.ok.exf b hb).2 x c z, fun p hp => absurd (show p ∈ ([] : List (Addr × Obj)) ++ [] from hp) (by simp)⟩
  have hw : tClause J g tt (tb D) (own.map (·.2)) (wipe σ (own.map (·.2))) (upd H2 D ho) fun H' => Q (.ref D) H' := by
    have ww : ∀ (vs : List Nat) (σ : St), wipe (wipe σ vs) vs = wipe σ vs := by
      have set_none : ∀ (ws : List Nat) (τ : St) (v : Nat), (wipe τ ws).set v none = wipe (τ.set v none) ws := by
        intro ws
        induction ws with
        | nil => intro τ v; rfl
        | cons a ws ih =>
          intro τ v
          show ((wipe τ ws).set a none).set v none = (wipe (τ.set v none) ws).set a none
          rw [← ih]
          by_cases hav : a = v
          · rw [hav]
          · rw [List.set_comm _ _ hav]
      intro vs
      induction vs with
      | nil => intro σ; rfl
      | cons v vs ih =>
        intro σ
        show (wipe ((wipe σ vs).set v none) vs).set v none = (wipe σ vs).set v none
        rw [← set_none, ih, List.set_set]
    obtain ⟨W, w0, turn⟩ := qD
    refine ⟨W, w0, fun i m H wi' => ?_⟩
    rcases turn i m H wi' with z | ⟨go, N, hN', step⟩
    · exact .inl z
    · refine .inr ⟨go, N, hN', fun x H' y => ?_⟩
      rw [ww]
      exact step x H' y
  have loop := br_cloop (B := X.blk s3 (upd H2 D ho) scope ce fp) (hq · (.ref D) ce) (hden · (.ref D) ce) (hund · (.ref D) ce) (hmono (.ref D) ce) hc rfl hx0 pg pt pb hv T I4 st4 fB hw
  have fin : codeAny (model X.prog X.w) X.A (.compLoop e 0 (.ref it) (.ref D) ce) (compPost (model X.prog X.w) X.A X.xe use Qf (.ref D) s3.heap.objs.size) s4 := by
    refine codeAny_mono loop fun r s6 hr => ?_
    cases r with
    | error _ => exact hr.elim
    | ok f =>
      obtain ⟨rfl, σ', H5, I6, _, _, qq⟩ := hr
      have I7 : Inv X pins σ H5 s6 := I3.call' (ch := fp) I6.os I6.base I6.hok I6.bare fun b hb => ⟨(f3 b hb).1.2.2.2.1, (f3 b hb).1.2.1, (f3 b hb).1.2.2.2.2.1, (f3 b hb).1.2.2.2.2.2⟩
      have nC : H5 s3.heap.objs.size = none := by
        have z : H5 ce.locals = none := I6.free
        rw [cL] at z
        exact z
      obtain ⟨m, hn, _⟩ := I6.loc
      have hn : s6.heap.Ns ce.locals m := hn
      rw [cL] at hn
      exact hRR D s3.heap.objs.size s6 m H5 I7 qq hn (I3.fpOk (Nat.le_refl _) nC)
  exact hstart _ _ _ _ _ fin (T.self X.A 0 _ _ _ st4 fin)
end
end L2

-- BrComp3
namespace L2
open PySem PySem.Spec PyProof.Rows
section
variable {X : Cx}
/-- {k: v for tg in iter if ..}, the keys tuples -/
def tDcT (wi : TI) (g : TG) (tt : TT) (tk tv : TE) (vs : List Nat) : TE := tComp wi g tt (fun D => tbPut tk tv D) (.dT []) vs
theorem br_dcT {kx vx tg iter : Expr} {ifs : List Expr} {scope : Scope} {own : List (Str × Nat)} {pos : Pos} {wi : TI} {g : TG} {tt : TT} {tk tv : TE} (hc : X.calm = true) (hu : X.A.units < cLine) (hN : X.N.Nodup) (hi : PI X tg iter wi) (ok : BlkOk X.N X.env.scope scope own)
    (hg : ∀ (s : Shared) (H : Hp) (C : Addr) (cl : List (Str × Addr)) (fp : List Addr), PG (X.blk s H scope (compEnvC scope cl C X.env) fp) tg g) (ht : ∀ (s : Shared) (H : Hp) (C : Addr) (cl : List (Str × Addr)) (fp : List Addr), PTs (X.blk s H scope (compEnvC scope cl C X.env) fp) ifs tt)
    (hk : ∀ (s : Shared) (H : Hp) (C : Addr) (cl : List (Str × Addr)) (fp : List Addr), PE (X.blk s H scope (compEnvC scope cl C X.env) fp) kx tk)
    (he : ∀ (s : Shared) (H : Hp) (C : Addr) (cl : List (Str × Addr)) (fp : List Addr), PE (X.blk s H scope (compEnvC scope cl C X.env) fp) vx tv) (hs : ∀ x, foldedSetIterable iter X.env x = pure x := by intro _; rfl) :
    PE X (.DictComp kx vx [⟨tg, iter, ifs, 0⟩] scope pos) (tDcT wi g tt tk tv (own.map (·.2))) := by
  refine ⟨fun pins s σ H Q I h => ?_⟩
  rw [arm_eval_DictComp]
  refine br_comp (vs1 := []) (ob := { cls := .type "dict", data := .dict #[] }) (ho := .dT []) (bw := fun acc env => match acc with
      | .ref D => bwPut (model X.prog X.w) X.A kx vx D env
      | _ => fun _ _ _ => False) (gs := []) rfl hc hN I hi ok (fun j hj => nomatch hj) (fun s R hR => wpAny_newObj_type hR) rfl (fun H' h hb => dt_empty h hb) (fun _ _ _ => rfl) (fun _ _ _ => rfl) (fun _ _ _ => rfl)
    (fun it acc env R s h0 h1 => codeAny_compStart_dict h0 h1) (fun acc env K K' E E' s hK hE hb => ?_) (fun D env => turnD) hg ht (fun s H C cl fp D => pb_put rfl hu (hk s H C cl fp) (he s H C cl fp)) hs h fun D C s' m H' I' q hn f => ⟨m, hn, fun h'' sb => ?_⟩
  · cases acc with
    | ref D => exact bw_mono_put K K' E E' s hK hE hb
    | _ => exact hb.elim
  · obtain ⟨f0, f1, f2, f3, f4, f5⟩ := f
    exact ⟨.ref D, H', I'.turned (t' := s'.toks) (fun b o hb e => (sb.2 b hb).trans e) f0 f1 f3 f4 f5, rfl, q⟩
/-- [elt for t0 in i0 if .. for t1 in i1 if .. for t2 in i2 if ..] -/
def tLc3 (w0 w1 w2 : TI) (g0 g1 g2 : TG) (tt0 tt1 tt2 : TT) (te : TE) (v0 v1 v2 : List Nat) : TE := tComp w0 g0 tt0 (fun D => tbSub w1 g1 tt1 (tbSub w2 g2 tt2 (tbApp te D) v2) v1) (.lst []) v0
theorem br_lc3 {elt t0 i0 t1 i1 t2 i2 : Expr} {f0 f1 f2 : List Expr} {scope : Scope} {own : List (Str × Nat)} {v1 v2 : List Nat} {pos : Pos} {w0 w1 w2 : TI} {g0 g1 g2 : TG} {tt0 tt1 tt2 : TT} {te : TE} (hc : X.calm = true) (hN : X.N.Nodup) (hi : PI X t0 i0 w0) (ok : BlkOk X.N X.env.scope scope own)
    (hv1 : ∀ j ∈ v1, j ∈ own.map (·.2)) (hv2 : ∀ j ∈ v2, j ∈ v1)
    (hg0 : ∀ (s : Shared) (H : Hp) (C : Addr) (cl : List (Str × Addr)) (fp : List Addr), PG (X.blk s H scope (compEnvC scope cl C X.env) fp) t0 g0) (ht0 : ∀ (s : Shared) (H : Hp) (C : Addr) (cl : List (Str × Addr)) (fp : List Addr), PTs (X.blk s H scope (compEnvC scope cl C X.env) fp) f0 tt0)
    (hi1 : ∀ (s : Shared) (H : Hp) (C : Addr) (cl : List (Str × Addr)) (fp : List Addr), PI (X.blk s H scope (compEnvC scope cl C X.env) fp) t1 i1 w1)
    (hg1 : ∀ (s : Shared) (H : Hp) (C : Addr) (cl : List (Str × Addr)) (fp : List Addr), PG (X.blk s H scope (compEnvC scope cl C X.env) fp) t1 g1) (ht1 : ∀ (s : Shared) (H : Hp) (C : Addr) (cl : List (Str × Addr)) (fp : List Addr), PTs (X.blk s H scope (compEnvC scope cl C X.env) fp) f1 tt1)
    (hi2 : ∀ (s : Shared) (H : Hp) (C : Addr) (cl : List (Str × Addr)) (fp : List Addr), PI (X.blk s H scope (compEnvC scope cl C X.env) fp) t2 i2 w2)
    (hg2 : ∀ (s : Shared) (H : Hp) (C : Addr) (cl : List (Str × Addr)) (fp : List Addr), PG (X.blk s H scope (compEnvC scope cl C X.env) fp) t2 g2) (ht2 : ∀ (s : Shared) (H : Hp) (C : Addr) (cl : List (Str × Addr)) (fp : List Addr), PTs (X.blk s H scope (compEnvC scope cl C X.env) fp) f2 tt2)
    (he : ∀ (s : Shared) (H : Hp) (C : Addr) (cl : List (Str × Addr)) (fp : List Addr), PE (X.blk s H scope (compEnvC scope cl C X.env) fp) elt te) (hs : ∀ x, foldedSetIterable i0 X.env x = pure x := by intro _; rfl)
    (hs1 : ∀ env x, foldedSetIterable i1 env x = pure x := by intro _ _; rfl) (hs2 : ∀ env x, foldedSetIterable i2 env x = pure x := by intro _ _; rfl) :
    PE X (.ListComp elt [⟨t0, i0, f0, 0⟩, ⟨t1, i1, f1, 0⟩, ⟨t2, i2, f2, 0⟩] scope pos) (tLc3 w0 w1 w2 g0 g1 g2 tt0 tt1 tt2 te (own.map (·.2)) v1 v2) := by
  refine ⟨fun pins s σ H Q I h => ?_⟩
  rw [eval_ListComp]
  refine br_comp (vs1 := v1) (ob := { cls := .type "list", data := .seq ([] : List Value).toArray }) (ho := .lst [])
    (bw := fun acc env => bwSub (model X.prog X.w) X.A (.ListComp elt [⟨t0, i0, f0, 0⟩, ⟨t1, i1, f1, 0⟩, ⟨t2, i2, f2, 0⟩] scope pos) 1 i1 acc env)
    rfl hc hN I hi ok hv1 (fun s R hR => wpAny_newObj_type hR (by show 0 ≤ sizeLine; decide)) rfl (fun H' h _ => ⟨Nat.zero_le _, [], 0, .nil, Heap.get?_push_size _ rfl⟩) (fun _ _ _ => rfl) (fun _ _ _ => rfl) (fun _ _ _ => rfl)
    (fun it acc env R s h0 h1 => codeAny_compStart_list h0 h1) (fun acc env => bw_mono_sub) (fun D env => turn3_0 (hs1 env)) hg0 ht0
    (fun s H C cl fp D => pb_sub rfl bw_mono_sub hc rfl (hi1 s H C cl fp) (turn3_1 (hs2 _)) (hg1 s H C cl fp) (ht1 s H C cl fp)
      (pb_sub rfl bw_mono_app hc rfl (hi2 s H C cl fp) turn3_2 (hg2 s H C cl fp) (ht2 s H C cl fp) (pb_app (vs := []) rfl (he s H C cl fp)) (fun j hj => nomatch hj)) hv2)
    hs h fun D C s' m H' I' q hn f => ⟨m, hn, fun h'' sb => ?_⟩
  obtain ⟨f0, f1, f2, f3, f4, f5⟩ := f
  exact ⟨.ref D, H', I'.turned (t' := s'.toks) (fun b o hb e => (sb.2 b hb).trans e) f0 f1 f3 f4 f5, rfl, q⟩
end
end L2

-- BrEv
/-! A small logic of data over the hand layer: what an expression is worth, told by data; Hf is the part of the heap that the data lie in -/
namespace Br
open PySem L2

/-! ### data -/
inductive Dt where
  | non
  | bool (b : Bool)
  | int (i : Int)
  | tup (ds : List Dt)
  | lst (ds : List Dt)
  | dct (ks : List (Int × Int))
  | ob (C : Addr) (ns : List Str) (ds : List Dt)
  | raw (v : V)
abbrev keyE (p : Int × Int) : List Key × V := ([Sum.inl p.1, Sum.inl p.2], V.bl true)
mutual
inductive Rep (H : Hp) : V → Dt → Prop
  | non : Rep H .non .non
  | bool (b : Bool) : Rep H (.bl b) (.bool b)
  | int (i : Int) : Rep H (.int i) (.int i)
  | tup {a : Addr} {xs : List V} {ds : List Dt} : H a = some (.tup xs) → Reps H xs ds → Rep H (.ref a) (.tup ds)
  | lst {a : Addr} {xs : List V} {ds : List Dt} : H a = some (.lst xs) → Reps H xs ds → Rep H (.ref a) (.lst ds)
  | dct {a : Addr} {ks : List (Int × Int)} : Rd H a (.dT (ks.map keyE)) → Rep H (.ref a) (.dct ks)
  | ob {a C dx : Addr} {fs : List (Str × V)} {ns : List Str} {ds : List Dt} : H a = some (.ins C dx fs) → fs.map (·.1) = ns → Reps H (fs.map (·.2)) ds → Rep H (.ref a) (.ob C ns ds)
  | raw (v : V) : Rep H v (.raw v)
inductive Reps (H : Hp) : List V → List Dt → Prop
  | nil : Reps H [] []
  | cons {v : V} {vs : List V} {d : Dt} {ds : List Dt} : Rep H v d → Reps H vs ds → Reps H (v :: vs) (d :: ds)
end
theorem _root_.L2.Rd.same {H H' : Hp} {a : Addr} {u : HO} (h : Rd H a u) (k : Same H H') : Rd H' a u := h.elim (fun e => .inl (k _ _ e)) fun ⟨o, e⟩ => .inr ⟨o, k _ _ e⟩
mutual
theorem Rep.mono {H H' : Hp} (k : Same H H') : ∀ {v : V} {d : Dt}, Rep H v d → Rep H' v d
  | _, _, .non => .non
  | _, _, .bool b => .bool b
  | _, _, .int i => .int i
  | _, _, .tup h r => .tup (k _ _ h) (Reps.mono k r)
  | _, _, .lst h r => .lst (k _ _ h) (Reps.mono k r)
  | _, _, .dct h => .dct (h.same k)
  | _, _, .ob h e r => .ob (k _ _ h) e (Reps.mono k r)
  | _, _, .raw v => .raw v
theorem Reps.mono {H H' : Hp} (k : Same H H') : ∀ {vs : List V} {ds : List Dt}, Reps H vs ds → Reps H' vs ds
  | _, _, .nil => .nil
  | _, _, .cons h r => .cons (h.mono k) (Reps.mono k r)
end
theorem Reps.length {H : Hp} : ∀ {vs : List V} {ds : List Dt}, Reps H vs ds → vs.length = ds.length
  | _, _, .nil => rfl
  | _, _, .cons _ r => by rw [List.length_cons, List.length_cons, Reps.length r]
theorem Reps.get {H : Hp} : ∀ {vs : List V} {ds : List Dt} {i : Nat} {d : Dt}, Reps H vs ds → ds[i]? = some d → ∃ v, vs[i]? = some v ∧ Rep H v d
  | _, _, _, _, .nil, e => by simp at e
  | _, _, 0, _, .cons h _, e => by
    simp at e
    subst e
    exact ⟨_, rfl, h⟩
  | _, _, i + 1, d, .cons _ r, e => by
    obtain ⟨v, h1, h2⟩ := Reps.get (i := i) (d := d) r (by simpa using e)
    exact ⟨v, by simpa using h1, h2⟩
theorem Reps.getV {H : Hp} : ∀ {vs : List V} {ds : List Dt} {i : Nat} {v : V}, Reps H vs ds → vs[i]? = some v → ∃ d, ds[i]? = some d ∧ Rep H v d
  | _, _, _, _, .nil, e => by simp at e
  | _, _, 0, _, .cons h _, e => by
    simp at e
    subst e
    exact ⟨_, rfl, h⟩
  | _, _, i + 1, d, .cons _ r, e => by
    obtain ⟨v, h1, h2⟩ := Reps.getV (i := i) (v := d) r (by simpa using e)
    exact ⟨v, by simpa using h1, h2⟩
theorem Reps.append {H : Hp} : ∀ {vs ws : List V} {ds es : List Dt}, Reps H vs ds → Reps H ws es → Reps H (vs ++ ws) (ds ++ es)
  | _, _, _, _, .nil, s => s
  | _, _, _, _, .cons h r, s => .cons h (Reps.append r s)
theorem Reps.snoc {H : Hp} {vs : List V} {v : V} {ds : List Dt} {d : Dt} (r : Reps H vs ds) (h : Rep H v d) : Reps H (vs ++ [v]) (ds ++ [d]) := r.append (.cons h .nil)

/-! ### the frame: the data's part Hf of the heap H grows, what stood stays, what was not the data's is not theirs -/
/-- no tuple -/
def NT (o : HO) : Prop := ∀ xs, o ≠ .tup xs
structure Fr2 (Hf H Hf' H' : Hp) : Prop where
  f : Same Hf Hf'
  h : Same H H'
  s : Same Hf' H'
  n : ∀ a o, H a = some o → NT o → Hf a = Option.none → Hf' a = Option.none
theorem Fr2.refl {Hf H : Hp} (s : Same Hf H) : Fr2 Hf H Hf H := ⟨Same.refl _, Same.refl _, s, fun _ _ _ _ h => h⟩
theorem Fr2.trans {Hf H Hf1 H1 Hf2 H2 : Hp} (a : Fr2 Hf H Hf1 H1) (b : Fr2 Hf1 H1 Hf2 H2) : Fr2 Hf H Hf2 H2 := ⟨a.f.trans b.f, a.h.trans b.h, b.s, fun c o e t n => b.n c o (a.h c o e) t (a.n c o e t n)⟩
theorem same_new {H : Hp} {p : Addr} (h : H p = Option.none) (o : HO) : Same H (upd H p o) := fun b u q => by rw [upd_ne (ne_of_none q h)]; exact q
/-- a new object that belongs to the data -/
theorem Fr2.new {Hf H : Hp} (s : Same Hf H) {p : Addr} (hp : H p = Option.none) (o : HO) : Fr2 Hf H (upd Hf p o) (upd H p o) := by
  refine ⟨same_new (s.free hp) o, same_new hp o, fun b u q => ?_, fun a u e _ n => ?_⟩
  · by_cases hb : b = p
    · subst hb
      rw [upd_same] at q ⊢
      exact q
    · rw [upd_ne hb] at q ⊢
      exact s b u q
  · rw [upd_ne (ne_of_none e hp)]
    exact n
/-- a new object that does not (it may change later) -/
theorem Fr2.own {Hf H : Hp} (s : Same Hf H) {p : Addr} (hp : H p = Option.none) (o : HO) : Fr2 Hf H Hf (upd H p o) := ⟨Same.refl _, same_new hp o, s.trans (same_new hp o), fun _ _ _ _ h => h⟩
/-- a tuple that stands is taken among the data -/
theorem Fr2.adT {Hf H : Hp} (s : Same Hf H) {q : Addr} {xs : List V} (h : H q = some (.tup xs)) : Fr2 Hf H (upd Hf q (.tup xs)) H := by
  refine ⟨fun a u e => ?_, Same.refl _, fun a u e => ?_, fun a u e t n => ?_⟩
  · by_cases z : a = q
    · subst z
      rw [upd_same, ← s _ _ e, h]
    · rw [upd_ne z]; exact e
  · by_cases z : a = q
    · subst z
      rw [upd_same] at e
      rw [h, ← e]
    · rw [upd_ne z] at e; exact s _ _ e
  · rw [upd_ne (fun z => by subst z; rw [h] at e; cases e; exact t _ rfl)]; exact n
theorem Rep.fr {Hf H Hf' H' : Hp} {v : V} {d : Dt} (r : Rep Hf v d) (f : Fr2 Hf H Hf' H') : Rep Hf' v d := r.mono f.f

/-! ### slots -/
abbrev En := List (Option Dt)
structure EnvR (Hf : Hp) (σ : L2.St) (E : En) : Prop where
  len : σ.length = E.length
  at_ : ∀ (i : Nat) (d : Dt), E[i]? = some (some d) → ∃ v, σ[i]? = some (some v) ∧ Rep Hf v d
theorem EnvR.mono {Hf Hf' : Hp} {σ : L2.St} {E : En} (k : Same Hf Hf') (e : EnvR Hf σ E) : EnvR Hf' σ E := ⟨e.len, fun i d h => let ⟨v, h1, h2⟩ := e.at_ i d h; ⟨v, h1, h2.mono k⟩⟩
theorem EnvR.set {Hf : Hp} {σ : L2.St} {E : En} (e : EnvR Hf σ E) {v : V} {d : Dt} (i : Nat) (r : Rep Hf v d) : EnvR Hf (σ.set i (some v)) (E.set i (some d)) := by
  refine ⟨by rw [List.length_set, List.length_set]; exact e.len, fun j d' h => ?_⟩
  by_cases hj : i = j
  · subst hj
    by_cases hi : i < E.length
    · rw [List.getElem?_set_self hi] at h
      rw [List.getElem?_set_self (by rw [e.len]; exact hi)]
      have h' : d = d' := Option.some.inj (Option.some.inj h)
      subst h'
      exact ⟨v, rfl, r⟩
    · rw [List.getElem?_eq_none (by rw [List.length_set]; omega)] at h
      cases h
  · rw [List.getElem?_set_ne hj] at h ⊢
    exact e.at_ j d' h
/-- fewer slots known -/
theorem EnvR.less {Hf : Hp} {σ : L2.St} {E E' : En} (e : EnvR Hf σ E) (hl : E'.length = E.length) (h : ∀ (i : Nat) d, E'[i]? = some (some d) → E[i]? = some (some d)) : EnvR Hf σ E' := ⟨e.len.trans hl.symm, fun i d q => e.at_ i d (h i d q)⟩
def wipeE (E : En) : List Nat → En
  | [] => E
  | v :: vs => (wipeE E vs).set v Option.none
theorem EnvR.setNone {Hf : Hp} {σ : L2.St} {E : En} (e : EnvR Hf σ E) (i : Nat) : EnvR Hf (σ.set i Option.none) (E.set i Option.none) := by
  refine ⟨by rw [List.length_set, List.length_set]; exact e.len, fun j d' h => ?_⟩
  by_cases hj : i = j
  · subst hj
    by_cases hi : i < E.length
    · rw [List.getElem?_set_self hi] at h
      cases h
    · rw [List.getElem?_eq_none (by rw [List.length_set]; omega)] at h
      cases h
  · rw [List.getElem?_set_ne hj] at h ⊢
    exact e.at_ j d' h
theorem EnvR.wipe {Hf : Hp} {σ : L2.St} {E : En} (e : EnvR Hf σ E) : ∀ vs : List Nat, EnvR Hf (wipe σ vs) (wipeE E vs)
  | [] => e
  | v :: vs => (EnvR.wipe e vs).setNone v

/-! ### what a reading is worth -/
def Ev (te : TE) (E : En) (d : Dt) : Prop := ∀ (Hf : Hp) (σ : L2.St) (H : Hp), Same Hf H → EnvR Hf σ E → ∀ Q : VK, (∀ v Hf' H', Fr2 Hf H Hf' H' → Rep Hf' v d → Q v H') → te σ H Q
def EvT (tt : TT) (E : En) (b : Bool) : Prop := ∀ (Hf : Hp) (σ : L2.St) (H : Hp), Same Hf H → EnvR Hf σ E → ∀ Q : Bool → Hp → Prop, (∀ Hf' H', Fr2 Hf H Hf' H' → Q b H') → tt σ H Q
def EvA (ta : TA) (E : En) (ds : List Dt) : Prop := ∀ (Hf : Hp) (σ : L2.St) (H : Hp), Same Hf H → EnvR Hf σ E → ∀ Q : List V → Hp → Prop, (∀ vs Hf' H', Fr2 Hf H Hf' H' → Reps Hf' vs ds → Q vs H') → ta σ H Q
def DE (X : Cx) (E : En) (e : Expr) (d : Dt) : Prop := ∃ t, PE X e t ∧ Ev t E d
def DT (X : Cx) (E : En) (e : Expr) (b : Bool) : Prop := ∃ t, PT X e t ∧ EvT t E b
def DW (X : Cx) (E : En) (e : Expr) (b : Bool) : Prop := ∃ t, PW X e t ∧ EvT t E b
def DA (X : Cx) (E : En) (es : List Expr) (ds : List Dt) : Prop := ∃ t, PA X es t ∧ EvA t E ds
theorem DE.is {X : Cx} {E : En} {e : Expr} {d d' : Dt} (h : DE X E e d) (q : d = d') : DE X E e d' := q ▸ h
theorem DT.is {X : Cx} {E : En} {e : Expr} {b b' : Bool} (h : DT X E e b) (q : b = b') : DT X E e b' := q ▸ h

section
variable {X : Cx} {E : En} {a b c : Expr} {pos : Pos} {da db dc : Dt}
/-- two readings in a row, then something of their values -/
theorem ev_two {ta tb : TE} {r : R2} {d : Dt} (ha : Ev ta E da) (hb : Ev tb E db)
    (hr : ∀ (Hf H : Hp) (x y : V) (Q : VK), Same Hf H → Rep Hf x da → Rep Hf y db → (∀ v Hf' H', Fr2 Hf H Hf' H' → Rep Hf' v d → Q v H') → r x y H Q) : Ev (tOp r ta tb) E d := by
  intro Hf σ H s e Q q
  refine ha Hf σ H s e _ fun x Hf1 H1 f1 r1 => ?_
  refine hb Hf1 σ H1 f1.s (e.mono f1.f) _ fun y Hf2 H2 f2 r2 => ?_
  exact hr Hf2 H2 x y Q f2.s (r1.fr f2) r2 fun v Hf3 H3 f3 r3 => q v Hf3 H3 ((f1.trans f2).trans f3) r3
theorem ev_now {Hf H : Hp} {v : V} {d : Dt} {Q : VK} (s : Same Hf H) (r : Rep Hf v d) (q : ∀ v Hf' H', Fr2 Hf H Hf' H' → Rep Hf' v d → Q v H') : Q v H := q v Hf H (Fr2.refl s) r
/-! ### constants, names -/
theorem de_int {i : Int} {j} : DE X E (.Constant (.int i) j pos) (.int i) := ⟨_, pe_int, fun _ _ _ s _ Q q => ev_now s (.int i) q⟩
theorem de_bool {k : Bool} {j} : DE X E (.Constant (.bool k) j pos) (.bool k) := ⟨_, pe_bl, fun _ _ _ s _ Q q => ev_now s (.bool k) q⟩
theorem de_non {j} : DE X E (.Constant .none j pos) .non := ⟨_, pe_non, fun _ _ _ s _ Q q => ev_now s .non q⟩
theorem de_nm {x : Str} {d : Dt} (i : Nat) (hN : X.N[i]? = some x) (hv : Vis X.env.scope x) (hd : (x == ("__debug__" : Str)) = false) (hcd : (x == ("__classdict__" : Str)) = false) (hE : E[i]? = some (some d)) : DE X E (.Name x pos) d :=
  ⟨_, pe_var hN hv hd hcd, fun Hf σ H s e Q q => by
    obtain ⟨v, h1, h2⟩ := e.at_ i d hE
    exact ⟨v, h1, ev_now s h2 q⟩⟩
/-! ### numbers -/
theorem ev_I0 {ta tb : TE} {g : Int → Int → V} {k : Int → Int → Dt} {i j : Int} (hg : ∀ Hf, Rep Hf (g i j) (k i j)) (ha : Ev ta E (.int i)) (hb : Ev tb E (.int j)) : Ev (tOp (rI0 g) ta tb) E (k i j) :=
  ev_two ha hb fun Hf H x y Q s rx ry q => by
    cases rx
    cases ry
    exact ⟨i, j, rfl, rfl, ev_now s (hg Hf) q⟩
theorem ev_I {ta tb : TE} {C : Int → Int → Prop} {g : Int → Int → V} {k : Int → Int → Dt} {i j : Int} (hc : C i j) (hg : ∀ Hf, Rep Hf (g i j) (k i j)) (ha : Ev ta E (.int i)) (hb : Ev tb E (.int j)) : Ev (tOp (rI C g) ta tb) E (k i j) :=
  ev_two ha hb fun Hf H x y Q s rx ry q => by
    cases rx
    cases ry
    exact ⟨i, j, rfl, rfl, hc, ev_now s (hg Hf) q⟩
variable {i j k : Int}
theorem de_add (ha : DE X E a (.int i)) (hb : DE X E b (.int j)) : DE X E (.BinOp a .Add b pos) (.int (i + j)) := let ⟨_, h1, e1⟩ := ha; let ⟨_, h2, e2⟩ := hb; ⟨_, pe_op op_add h1 h2, ev_I0 (k := fun i j => .int (i + j)) (fun _ => .int _) e1 e2⟩
theorem de_sub (ha : DE X E a (.int i)) (hb : DE X E b (.int j)) : DE X E (.BinOp a .Sub b pos) (.int (i - j)) := let ⟨_, h1, e1⟩ := ha; let ⟨_, h2, e2⟩ := hb; ⟨_, pe_op op_sub h1 h2, ev_I0 (k := fun i j => .int (i - j)) (fun _ => .int _) e1 e2⟩
theorem de_mul (ha : DE X E a (.int i)) (hb : DE X E b (.int j)) (hc : CMul i j) : DE X E (.BinOp a .Mult b pos) (.int (i * j)) := let ⟨_, h1, e1⟩ := ha; let ⟨_, h2, e2⟩ := hb; ⟨_, pe_op op_mul h1 h2, ev_I (k := fun i j => .int (i * j)) hc (fun _ => .int _) e1 e2⟩
theorem de_mod (ha : DE X E a (.int i)) (hb : DE X E b (.int j)) (hc : 0 < j) : DE X E (.BinOp a .Mod b pos) (.int (i % j)) := let ⟨_, h1, e1⟩ := ha; let ⟨_, h2, e2⟩ := hb; ⟨_, pe_op op_mod h1 h2, ev_I (k := fun i j => .int (i % j)) hc (fun _ => .int _) e1 e2⟩
theorem de_fdiv (ha : DE X E a (.int i)) (hb : DE X E b (.int j)) (hc : CDiv i j) : DE X E (.BinOp a .FloorDiv b pos) (.int (i / j)) := let ⟨_, h1, e1⟩ := ha; let ⟨_, h2, e2⟩ := hb; ⟨_, pe_op op_fdiv h1 h2, ev_I (k := fun i j => .int (i / j)) hc (fun _ => .int _) e1 e2⟩
/-! ### comparisons of numbers -/
theorem ev_eq {ta tb : TE} (ha : Ev ta E (.int i)) (hb : Ev tb E (.int j)) : Ev (tOp rEq ta tb) E (.bool (decide (i = j))) :=
  ev_two ha hb fun Hf H x y Q s rx ry q => by
    cases rx
    cases ry
    refine ⟨rfl, ?_⟩
    have e : decide (V.int i = V.int j) = decide (i = j) := by simp
    rw [e]
    exact ev_now s (.bool _) q
theorem ev_ne {ta tb : TE} (ha : Ev ta E (.int i)) (hb : Ev tb E (.int j)) : Ev (tOp rNe ta tb) E (.bool (!decide (i = j))) :=
  ev_two ha hb fun Hf H x y Q s rx ry q => by
    cases rx
    cases ry
    refine ⟨rfl, ?_⟩
    have e : decide (V.int i = V.int j) = decide (i = j) := by simp
    rw [e]
    exact ev_now s (.bool _) q
/-- a comparison's rule on two numbers -/
def CmpI (X : Cx) (op : CmpOp) (p : Int → Int → Bool) : Prop := ∃ r, OpR X (compareOp op) r ∧ (∀ b, behindInMarks op b = false) ∧
  ∀ {E : En} {ta tb : TE} {i j : Int}, Ev ta E (.int i) → Ev tb E (.int j) → Ev (tOp r ta tb) E (.bool (p i j))
theorem cmp_lt : CmpI X .Lt (fun i j => decide (i < j)) := ⟨_, op_lt, fun _ => nomark _, fun h1 h2 => ev_I0 (k := fun i j => .bool (decide (i < j))) (fun _ => .bool _) h1 h2⟩
theorem cmp_le : CmpI X .LtE (fun i j => decide (i ≤ j)) := ⟨_, op_le, fun _ => nomark _, fun h1 h2 => ev_I0 (k := fun i j => .bool (decide (i ≤ j))) (fun _ => .bool _) h1 h2⟩
theorem cmp_gt : CmpI X .Gt (fun i j => decide (j < i)) := ⟨_, op_gt, fun _ => nomark _, fun h1 h2 => ev_I0 (k := fun i j => .bool (decide (j < i))) (fun _ => .bool _) h1 h2⟩
theorem cmp_ge : CmpI X .GtE (fun i j => decide (j ≤ i)) := ⟨_, op_ge, fun _ => nomark _, fun h1 h2 => ev_I0 (k := fun i j => .bool (decide (j ≤ i))) (fun _ => .bool _) h1 h2⟩
theorem cmp_eq : CmpI X .Eq (fun i j => decide (i = j)) := ⟨_, op_eq, fun _ => nomark _, ev_eq⟩
theorem cmp_ne : CmpI X .NotEq (fun i j => !decide (i = j)) := ⟨_, op_ne, fun _ => nomark _, ev_ne⟩
theorem de_cmp {op : CmpOp} {p : Int → Int → Bool} (h : CmpI X op p) (ha : DE X E a (.int i)) (hb : DE X E b (.int j)) : DE X E (.Compare a [op] [b] pos) (.bool (p i j)) := by
  obtain ⟨r, ho, hm, hr⟩ := h
  obtain ⟨_, h1, e1⟩ := ha
  obtain ⟨_, h2, e2⟩ := hb
  exact ⟨_, pe_cmpR ho h1 h2 (hm _), hr e1 e2⟩
/-- a value that is True or False, as a test -/
theorem evT_test {t : TE} {k : Bool} (h : Ev t E (.bool k)) : EvT (tTest t) E k := fun Hf σ H s e Q q => h Hf σ H s e _ fun v Hf' H' f r => by
  cases r
  exact ⟨k, rfl, q Hf' H' f⟩
theorem dt_cmp {op : CmpOp} {p : Int → Int → Bool} (h : CmpI X op p) (ha : DE X E a (.int i)) (hb : DE X E b (.int j)) : DT X E (.Compare a [op] [b] pos) (p i j) := by
  obtain ⟨r, ho, hm, hr⟩ := h
  obtain ⟨_, h1, e1⟩ := ha
  obtain ⟨_, h2, e2⟩ := hb
  exact ⟨_, pt_cmpR ho h1 h2 (hm _), evT_test (hr e1 e2)⟩
theorem ev_chain {p1 p2 : Int → Int → Bool} {ta tb tc : TE} {r r' : R2} (hr : ∀ {E : En} {ta tb : TE} {i j : Int}, Ev ta E (.int i) → Ev tb E (.int j) → Ev (tOp r ta tb) E (.bool (p1 i j)))
    (hr' : ∀ {E : En} {ta tb : TE} {i j : Int}, Ev ta E (.int i) → Ev tb E (.int j) → Ev (tOp r' ta tb) E (.bool (p2 i j))) (ha : Ev ta E (.int i)) (hb : Ev tb E (.int j)) (hc : Ev tc E (.int k)) : Ev (tChain r r' ta tb tc) E (.bool (p1 i j && p2 j k)) := by
  intro Hf σ H s e Q q
  refine ha Hf σ H s e _ fun x Hf1 H1 f1 r1 => ?_
  refine hb Hf1 σ H1 f1.s (e.mono f1.f) _ fun y Hf2 H2 f2 r2 => ?_
  cases r1
  cases r2
  have cst : ∀ z : Int, Ev (tC (.int z)) E (.int z) := fun z _ _ _ s _ Q q => ev_now s (.int z) q
  refine hr (cst i) (cst j) Hf2 σ H2 f2.s ((e.mono f1.f).mono f2.f) _ fun v Hf3 H3 f3 r3 => ?_
  cases r3
  refine ⟨p1 i j, rfl, ?_⟩
  cases hp : p1 i j with
  | false =>
    rw [hp] at q
    rw [if_neg Bool.false_ne_true]
    exact q _ Hf3 H3 ((f1.trans f2).trans f3) (.bool _)
  | true =>
    rw [hp, Bool.true_and] at q
    rw [if_pos rfl]
    refine hc Hf3 σ H3 f3.s (((e.mono f1.f).mono f2.f).mono f3.f) _ fun z Hf4 H4 f4 r4 => ?_
    cases r4
    exact hr' (cst j) (cst k) Hf4 σ H4 f4.s ((((e.mono f1.f).mono f2.f).mono f3.f).mono f4.f) _ fun v Hf5 H5 f5 r5 => q v Hf5 H5 ((((f1.trans f2).trans f3).trans f4).trans f5) r5
theorem de_chain {op1 op2 : CmpOp} {p1 p2 : Int → Int → Bool} (h1 : CmpI X op1 p1) (h2 : CmpI X op2 p2) (hm : lastMarks [op1, op2] [b, c] = false) (ha : DE X E a (.int i)) (hb : DE X E b (.int j)) (hc : DE X E c (.int k)) :
    DE X E (.Compare a [op1, op2] [b, c] pos) (.bool (p1 i j && p2 j k)) := by
  obtain ⟨r, ho, _, hr⟩ := h1
  obtain ⟨r', ho', _, hr'⟩ := h2
  obtain ⟨_, g1, e1⟩ := ha
  obtain ⟨_, g2, e2⟩ := hb
  obtain ⟨_, g3, e3⟩ := hc
  exact ⟨_, pe_chain ho ho' g1 g2 g3 hm, ev_chain hr hr' e1 e2 e3⟩
/-! ### truth -/
variable {x y : Bool} {rest : List Expr}
theorem de_one {op} {d : Dt} (h : DE X E a d) : DE X E (.BoolOp op [a] pos) d := let ⟨_, h1, e1⟩ := h; ⟨_, pe_one h1, e1⟩
/-- b is looked at where a is True alone -/
theorem de_and (ha : DE X E a (.bool x)) (hb : x = true → DE X E (.BoolOp .And (b :: rest) pos) (.bool y)) : DE X E (.BoolOp .And (a :: b :: rest) pos) (.bool (x && y)) := by
  obtain ⟨_, h1, e1⟩ := ha
  cases x with
  | true =>
    obtain ⟨_, h2, e2⟩ := hb rfl
    refine ⟨_, pe_and h1 h2, fun Hf σ H s e Q q => e1 Hf σ H s e _ fun v Hf1 H1 f1 r1 => ?_⟩
    cases r1
    refine ⟨true, rfl, ?_⟩
    rw [if_pos rfl]
    exact e2 Hf1 σ H1 f1.s (e.mono f1.f) _ fun v Hf2 H2 f2 r2 => q v Hf2 H2 (f1.trans f2) r2
  | false =>
    have h2 : PE X (.BoolOp .And (b :: rest) pos) (fun _ _ _ => False) := ⟨fun _ _ _ _ _ _ h => h.elim⟩
    refine ⟨_, pe_and h1 h2, fun Hf σ H s e Q q => e1 Hf σ H s e _ fun v Hf1 H1 f1 r1 => ?_⟩
    cases r1
    refine ⟨false, rfl, ?_⟩
    rw [if_neg Bool.false_ne_true]
    exact q _ Hf1 H1 f1 (.bool _)
theorem de_or (ha : DE X E a (.bool x)) (hb : x = false → DE X E (.BoolOp .Or (b :: rest) pos) (.bool y)) : DE X E (.BoolOp .Or (a :: b :: rest) pos) (.bool (x || y)) := by
  obtain ⟨_, h1, e1⟩ := ha
  cases x with
  | false =>
    obtain ⟨_, h2, e2⟩ := hb rfl
    refine ⟨_, pe_or h1 h2, fun Hf σ H s e Q q => e1 Hf σ H s e _ fun v Hf1 H1 f1 r1 => ?_⟩
    cases r1
    refine ⟨false, rfl, ?_⟩
    rw [if_neg Bool.false_ne_true]
    exact e2 Hf1 σ H1 f1.s (e.mono f1.f) _ fun v Hf2 H2 f2 r2 => q v Hf2 H2 (f1.trans f2) r2
  | true =>
    have h2 : PE X (.BoolOp .Or (b :: rest) pos) (fun _ _ _ => False) := ⟨fun _ _ _ _ _ _ h => h.elim⟩
    refine ⟨_, pe_or h1 h2, fun Hf σ H s e Q q => e1 Hf σ H s e _ fun v Hf1 H1 f1 r1 => ?_⟩
    cases r1
    refine ⟨true, rfl, ?_⟩
    rw [if_pos rfl]
    exact q _ Hf1 H1 f1 (.bool _)
theorem de_not (ha : DE X E a (.bool x)) : DE X E (.UnaryOp .Not a pos) (.bool (!x)) := by
  obtain ⟨_, h1, e1⟩ := ha
  refine ⟨_, pe_not h1, fun Hf σ H s e Q q => e1 Hf σ H s e _ fun v Hf1 H1 f1 r1 => ?_⟩
  cases r1
  exact ⟨x, rfl, q _ Hf1 H1 f1 (.bool _)⟩
theorem dt_val (ha : DE X E a (.bool x)) (he : ∀ whole, isTrue a X.env whole = (do let v ← whole; standAt a.pos; holding [v] (truthy v))) : DT X E a x := by
  obtain ⟨_, h1, e1⟩ := ha
  refine ⟨_, pt_val h1 he, fun Hf σ H s e Q q => e1 Hf σ H s e _ fun v Hf' H' f r => ?_⟩
  cases r
  exact ⟨x, rfl, q Hf' H' f⟩
theorem dt_not (ha : DT X E a x) : DT X E (.UnaryOp .Not a pos) (!x) := let ⟨_, h1, e1⟩ := ha; ⟨_, pt_not h1, fun Hf σ H s e Q q => e1 Hf σ H s e _ fun Hf' H' f => q Hf' H' f⟩
theorem dw_and1 (ha : DT X E a x) : DW X E (.BoolOp .And [a] pos) x := let ⟨_, h1, e1⟩ := ha; ⟨_, pw_and1 h1, e1⟩
theorem dw_or1 (ha : DT X E a x) : DW X E (.BoolOp .Or [a] pos) x := let ⟨_, h1, e1⟩ := ha; ⟨_, pw_or1 h1, e1⟩
theorem dw_and (ha : DT X E a x) (hb : x = true → DW X E (.BoolOp .And (b :: rest) pos) y) : DW X E (.BoolOp .And (a :: b :: rest) pos) (x && y) := by
  obtain ⟨_, h1, e1⟩ := ha
  cases x with
  | true =>
    obtain ⟨_, h2, e2⟩ := hb rfl
    refine ⟨_, pw_and h1 h2, fun Hf σ H s e Q q => e1 Hf σ H s e _ fun Hf1 H1 f1 => ?_⟩
    rw [if_pos rfl]
    exact e2 Hf1 σ H1 f1.s (e.mono f1.f) _ fun Hf2 H2 f2 => q Hf2 H2 (f1.trans f2)
  | false =>
    have h2 : PW X (.BoolOp .And (b :: rest) pos) (fun _ _ _ => False) := ⟨fun _ _ _ _ _ _ _ h => h.elim⟩
    refine ⟨_, pw_and h1 h2, fun Hf σ H s e Q q => e1 Hf σ H s e _ fun Hf1 H1 f1 => ?_⟩
    rw [if_neg Bool.false_ne_true]
    exact q Hf1 H1 f1
theorem dw_or (ha : DT X E a x) (hb : x = false → DW X E (.BoolOp .Or (b :: rest) pos) y) : DW X E (.BoolOp .Or (a :: b :: rest) pos) (x || y) := by
  obtain ⟨_, h1, e1⟩ := ha
  cases x with
  | false =>
    obtain ⟨_, h2, e2⟩ := hb rfl
    refine ⟨_, pw_or h1 h2, fun Hf σ H s e Q q => e1 Hf σ H s e _ fun Hf1 H1 f1 => ?_⟩
    rw [if_neg Bool.false_ne_true]
    exact e2 Hf1 σ H1 f1.s (e.mono f1.f) _ fun Hf2 H2 f2 => q Hf2 H2 (f1.trans f2)
  | true =>
    have h2 : PW X (.BoolOp .Or (b :: rest) pos) (fun _ _ _ => False) := ⟨fun _ _ _ _ _ _ _ h => h.elim⟩
    refine ⟨_, pw_or h1 h2, fun Hf σ H s e Q q => e1 Hf σ H s e _ fun Hf1 H1 f1 => ?_⟩
    rw [if_pos rfl]
    exact q Hf1 H1 f1
theorem dt_w (h : DW X E a x) : DT X E a x := let ⟨_, h1, e1⟩ := h; ⟨_, h1.pt, e1⟩
/-! ### rows -/
theorem da_nil : DA X E [] [] := ⟨_, pa_nil, fun Hf σ H s e Q q => q [] Hf H (Fr2.refl s) .nil⟩
theorem da_cons {e : Expr} {es : List Expr} {d : Dt} {ds : List Dt} (h : DE X E e d) (hr : DA X E es ds) (hs : starEach (e :: es) X.env = (false, eval e X.env) :: starEach es X.env) : DA X E (e :: es) (d :: ds) := by
  obtain ⟨_, h1, e1⟩ := h
  obtain ⟨_, h2, e2⟩ := hr
  refine ⟨_, pa_cons h1 h2 hs, fun Hf σ H s e Q q => e1 Hf σ H s e _ fun v Hf1 H1 f1 r1 => ?_⟩
  exact e2 Hf1 σ H1 f1.s (e.mono f1.f) _ fun vs Hf2 H2 f2 r2 => q (v :: vs) Hf2 H2 (f1.trans f2) (.cons (r1.fr f2) r2)
theorem de_tup {es : List Expr} {ds : List Dt} {x1} (h : DA X E es ds) (hl : ds.length ≤ sizeLine) : DE X E (.Tuple es x1 pos) (.tup ds) := by
  obtain ⟨_, h1, e1⟩ := h
  refine ⟨_, pe_tup h1, fun Hf σ H s e Q q => e1 Hf σ H s e _ fun vs Hf1 H1 f1 r1 => ⟨by rw [r1.length]; exact hl, fun p hp => ?_⟩⟩
  have f2 := Fr2.new f1.s hp (.tup vs)
  exact q _ _ _ (f1.trans f2) (.tup upd_same (r1.mono f2.f))
theorem de_lst {es : List Expr} {ds : List Dt} (h : DA X E es ds) (hl : ds.length ≤ sizeLine) : DE X E (.List es pos) (.lst ds) := by
  obtain ⟨_, h1, e1⟩ := h
  refine ⟨_, pe_lst h1, fun Hf σ H s e Q q => e1 Hf σ H s e _ fun vs Hf1 H1 f1 r1 => ⟨by rw [r1.length]; exact hl, fun p hp => ?_⟩⟩
  have f2 := Fr2.new f1.s hp (.lst vs)
  exact q _ _ _ (f1.trans f2) (.lst upd_same (r1.mono f2.f))
theorem de_ixT {ds : List Dt} {n : Nat} {d : Dt} (ha : DE X E a (.tup ds)) (hb : DE X E b (.int n)) (hd : ds[n]? = some d) (hs : PlainIx b) : DE X E (.Subscript a b pos) d := by
  obtain ⟨_, h1, e1⟩ := ha
  obtain ⟨_, h2, e2⟩ := hb
  refine ⟨_, pe_ix ix_tup h1 h2 hs, ev_two e1 e2 fun Hf H x y Q s rx ry q => ?_⟩
  cases ry
  cases rx with
  | tup h r =>
    obtain ⟨v, hv, rv⟩ := r.get hd
    exact ⟨_, _, _, v, rfl, rfl, SqT.of (s _ _ h), atI_nat hv, ev_now s rv q⟩
theorem de_ixL {ds : List Dt} {n : Nat} {d : Dt} (ha : DE X E a (.lst ds)) (hb : DE X E b (.int n)) (hd : ds[n]? = some d) (hs : PlainIx b) : DE X E (.Subscript a b pos) d := by
  obtain ⟨_, h1, e1⟩ := ha
  obtain ⟨_, h2, e2⟩ := hb
  refine ⟨_, pe_ix ix_list h1 h2 hs, ev_two e1 e2 fun Hf H x y Q s rx ry q => ?_⟩
  cases ry
  cases rx with
  | lst h r =>
    obtain ⟨v, hv, rv⟩ := r.get hd
    exact ⟨_, _, _, v, rfl, rfl, SqL.of (s _ _ h), atI_nat hv, ev_now s rv q⟩
theorem de_ixT0 {ds : List Dt} {n : Nat} {j} {p2 : Pos} {d : Dt} (ha : DE X E a (.tup ds)) (hd : ds[n]? = some d) : DE X E (.Subscript a (.Constant (.int (n : Int)) j p2) pos) d := de_ixT ha de_int hd (fun _ _ => rfl)
theorem de_ixL0 {ds : List Dt} {n : Nat} {j} {p2 : Pos} {d : Dt} (ha : DE X E a (.lst ds)) (hd : ds[n]? = some d) : DE X E (.Subscript a (.Constant (.int (n : Int)) j p2) pos) d := de_ixL ha de_int hd (fun _ _ => rfl)
/-! ### built-ins -/
theorem de_cB {x : Str} {p : Pos} {es : List Expr} {id : String} {r : List V → Hp → VK → Prop} {ds : List Dt} {d : Dt} (hc : CallR X (.builtin id) r) (hg : Gl X x) (hm : X.mg x = Option.none) (hv : bootBuiltins x = some (.builtin id)) (ha : DA X E (a :: es) ds)
    (hr : ∀ (Hf H : Hp) (vs : List V) (Q : VK), Same Hf H → Reps Hf vs ds → (∀ v Hf' H', Fr2 Hf H Hf' H' → Rep Hf' v d → Q v H') → r vs H Q)
    (hn : x ≠ "__name__") (hdb : (x == ("__debug__" : Str)) = false) (he : starEach (a :: es) X.env = (false, eval a X.env) :: starEach es X.env) (hpl : (backTo pos (starEach es X.env)).any (·.1) = false) : DE X E (.Call (.Name x p) (a :: es) [] pos) d := by
  obtain ⟨_, h1, e1⟩ := ha
  refine ⟨_, pe_callB hc hg hm hv h1 hn hdb he hpl, fun Hf σ H s e Q q => e1 Hf σ H s e _ fun vs Hf1 H1 f1 r1 => ?_⟩
  exact hr Hf1 H1 vs Q f1.s r1 fun v Hf2 H2 f2 r2 => q v Hf2 H2 (f1.trans f2) r2
theorem de_cT {x : Str} {p : Pos} {es : List Expr} {id : String} {r : List V → Hp → VK → Prop} {ds : List Dt} {d : Dt} (hc : CallR X (.type id) r) (hg : Gl X x) (hm : X.mg x = Option.none) (hv : bootBuiltins x = some (.type id)) (ha : DA X E (a :: es) ds)
    (hr : ∀ (Hf H : Hp) (vs : List V) (Q : VK), Same Hf H → Reps Hf vs ds → (∀ v Hf' H', Fr2 Hf H Hf' H' → Rep Hf' v d → Q v H') → r vs H Q)
    (hn : x ≠ "__name__") (hdb : (x == ("__debug__" : Str)) = false) (he : starEach (a :: es) X.env = (false, eval a X.env) :: starEach es X.env) (hpl : (backTo pos (starEach es X.env)).any (·.1) = false) : DE X E (.Call (.Name x p) (a :: es) [] pos) d := by
  obtain ⟨_, h1, e1⟩ := ha
  refine ⟨_, pe_callTy hc hg hm hv h1 hn hdb he hpl, fun Hf σ H s e Q q => e1 Hf σ H s e _ fun vs Hf1 H1 f1 r1 => ?_⟩
  exact hr Hf1 H1 vs Q f1.s r1 fun v Hf2 H2 f2 r2 => q v Hf2 H2 (f1.trans f2) r2
theorem reps1 {Hf : Hp} {vs : List V} {d : Dt} (r : Reps Hf vs [d]) : ∃ v, vs = [v] ∧ Rep Hf v d := by
  cases r with
  | cons h r =>
    cases r
    exact ⟨_, rfl, h⟩
theorem reps2 {Hf : Hp} {vs : List V} {d d' : Dt} (r : Reps Hf vs [d, d']) : ∃ v v', vs = [v, v'] ∧ Rep Hf v d ∧ Rep Hf v' d' := by
  cases r with
  | cons h r =>
    obtain ⟨v', rfl, h'⟩ := reps1 r
    exact ⟨_, _, rfl, h, h'⟩
variable {x : Str} {p : Pos}
theorem de_abs (hg : Gl X "abs") (hm : X.mg "abs" = Option.none) (ha : DE X E a (.int i)) (hs : starEach [a] X.env = (false, eval a X.env) :: starEach [] X.env) : DE X E (.Call (.Name "abs" p) [a] [] pos) (.int (if i < 0 then -i else i)) :=
  de_cB call_abs hg hm (by decide +kernel) (da_cons ha da_nil hs) (fun Hf H vs Q s r q => by
    obtain ⟨v, rfl, rv⟩ := reps1 r
    cases rv
    exact ⟨i, rfl, ev_now s (.int _) q⟩) (by decide) (by decide) hs rfl
theorem de_max2 (hc : X.calm = true) (hg : Gl X "max") (hm : X.mg "max" = Option.none) (ha : DE X E a (.int i)) (hb : DE X E b (.int j)) (hs : starEach [a, b] X.env = (false, eval a X.env) :: starEach [b] X.env) (hs2 : starEach [b] X.env = (false, eval b X.env) :: starEach [] X.env) :
    DE X E (.Call (.Name "max" p) [a, b] [] pos) (.int (if j > i then j else i)) :=
  de_cB (call_max2 hc) hg hm (by decide +kernel) (da_cons ha (da_cons hb da_nil hs2) hs) (fun Hf H vs Q s r q => by
    obtain ⟨v, v', rfl, rv, rv'⟩ := reps2 r
    cases rv
    cases rv'
    exact ⟨i, j, rfl, ev_now s (.int _) q⟩) (by decide) (by decide) hs (by rw [hs2]; rfl)
theorem de_min2 (hc : X.calm = true) (hg : Gl X "min") (hm : X.mg "min" = Option.none) (ha : DE X E a (.int i)) (hb : DE X E b (.int j)) (hs : starEach [a, b] X.env = (false, eval a X.env) :: starEach [b] X.env) (hs2 : starEach [b] X.env = (false, eval b X.env) :: starEach [] X.env) :
    DE X E (.Call (.Name "min" p) [a, b] [] pos) (.int (if j < i then j else i)) :=
  de_cB (call_min2 hc) hg hm (by decide +kernel) (da_cons ha (da_cons hb da_nil hs2) hs) (fun Hf H vs Q s r q => by
    obtain ⟨v, v', rfl, rv, rv'⟩ := reps2 r
    cases rv
    cases rv'
    exact ⟨i, j, rfl, ev_now s (.int _) q⟩) (by decide) (by decide) hs (by rw [hs2]; rfl)
theorem de_len {ds : List Dt} (hg : Gl X "len") (hm : X.mg "len" = Option.none) (ha : DE X E a (.lst ds)) (hs : starEach [a] X.env = (false, eval a X.env) :: starEach [] X.env) : DE X E (.Call (.Name "len" p) [a] [] pos) (.int (ds.length : Int)) :=
  de_cB call_len_seq hg hm PySem.boot_len (da_cons ha da_nil hs) (fun Hf H vs Q s r q => by
    obtain ⟨v, rfl, rv⟩ := reps1 r
    cases rv with
    | lst h r' =>
      refine ⟨_, _, rfl, .inl (SqL.of (s _ _ h)), ?_⟩
      rw [r'.length]
      exact ev_now s (.int _) q) (by decide) (by decide) hs rfl
end
end Br

-- BrSt
/-! statements, defs and their calls over the logic of data -/
namespace Br
open PySem L2 PySem.Spec PyProof.Rows

inductive Out where
  | nx (E : En)
  | rt (d : Dt)
/-- where a statement ends -/
def OutTo (Hf H : Hp) (D : Ends) : Out → Prop
  | .nx E' => ∀ σ' Hf' H', Fr2 Hf H Hf' H' → EnvR Hf' σ' E' → D.nx σ' H'
  | .rt d => ∀ v Hf' H', Fr2 Hf H Hf' H' → Rep Hf' v d → D.rt v H'
def Run (ts : TS) (E : En) (o : Out) : Prop := ∀ (Hf : Hp) (σ : L2.St) (H : Hp) (D : Ends), Same Hf H → EnvR Hf σ E → OutTo Hf H D o → ts D σ H
def S1 (X : Cx) (E : En) (st : Stmt) (o : Out) : Prop := ∃ t, PS X st t ∧ Run t E o
def SS (X : Cx) (E : En) (sts : List Stmt) (o : Out) : Prop := ∃ t, PSs X sts t ∧ Run t E o
theorem OutTo.after {Hf H Hf' H' : Hp} {D : Ends} {o : Out} (f : Fr2 Hf H Hf' H') (k : OutTo Hf H D o) : OutTo Hf' H' D o := by
  cases o with
  | nx E' => exact fun σ' Hf2 H2 f2 e2 => k σ' Hf2 H2 (f.trans f2) e2
  | rt d => exact fun v Hf2 H2 f2 r2 => k v Hf2 H2 (f.trans f2) r2
theorem OutTo.ends {Hf H : Hp} {D D' : Ends} {o : Out} (h1 : D.nx = D'.nx) (h2 : D.rt = D'.rt) (k : OutTo Hf H D o) : OutTo Hf H D' o := by
  cases o with
  | nx E' => rw [OutTo, ← h1]; exact k
  | rt d => rw [OutTo, ← h2]; exact k
theorem SS.is {X : Cx} {E : En} {sts : List Stmt} {d d' : Dt} (h : SS X E sts (.rt d)) (q : d = d') : SS X E sts (.rt d') := q ▸ h
section
variable {X : Cx} {E E' : En} {st : Stmt} {rest : List Stmt} {o : Out} {pos : Pos} {e : Expr} {d : Dt}
theorem ss_nil : SS X E [] (.nx E) := ⟨_, pss_nil, fun Hf σ H D s e k => k σ Hf H (Fr2.refl s) e⟩
theorem ss_cons (h1 : S1 X E st (.nx E')) (h2 : SS X E' rest o) : SS X E (st :: rest) o := by
  obtain ⟨_, p1, r1⟩ := h1
  obtain ⟨_, p2, r2⟩ := h2
  exact ⟨_, pss_cons p1 p2, fun Hf σ H D s e k => r1 Hf σ H _ s e fun σ' Hf' H' f e' => r2 Hf' σ' H' D f.s e' (k.after f)⟩
/-- nothing behind is run -/
theorem ss_last (h1 : S1 X E st (.rt d)) : SS X E (st :: rest) (.rt d) := by
  obtain ⟨_, p1, r1⟩ := h1
  exact ⟨_, pss_cons p1 pss_never, fun Hf σ H D s e k => r1 Hf σ H _ s e k⟩
theorem s1_ret (h : DE X E e d) : S1 X E (.Return (some e) pos) (.rt d) := let ⟨_, p, r⟩ := h; ⟨_, ps_ret p, fun Hf σ H D s q k => r Hf σ H s q _ k⟩
theorem s1_asg {x : Str} {p' : Pos} (i : Nat) (hN : X.N.Nodup) (hi : X.N[i]? = some x) (hx : Loc X.env.scope x) (h : DE X E e d) (hs : swapsWith e (some (.Name x p')) pos.line X.env = pure false) (hf : X.fn x = true ∨ X.env.scope.names.lookup x = some .local) :
    S1 X E (.Assign [.Name x p'] e pos) (.nx (E.set i (some d))) := by
  obtain ⟨_, p, r⟩ := h
  exact ⟨_, ps_set hN hi hx p hs hf, fun Hf σ H D s q k => r Hf σ H s q _ fun v Hf' H' f rv => k _ Hf' H' f ((q.mono f.f).set i rv)⟩
theorem s1_expr (h : DE X E e d) (hs : swapsWith e Option.none pos.line X.env = pure false) : S1 X E (.Expr e pos) (.nx E) := by
  obtain ⟨_, p, r⟩ := h
  exact ⟨_, ps_expr p hs, fun Hf σ H D s q k => r Hf σ H s q _ fun v Hf' H' f rv => k _ Hf' H' f (q.mono f.f)⟩
theorem s1_ifT {c : Expr} {a b : List Stmt} (hc : DT X E c true) (h : SS X E a o) : S1 X E (.If c a b pos) o := by
  obtain ⟨_, p, r⟩ := hc
  obtain ⟨_, p1, r1⟩ := h
  refine ⟨_, ps_if p p1 pss_never, fun Hf σ H D s q k => r Hf σ H s q _ fun Hf' H' f => ?_⟩
  rw [if_pos rfl]
  exact r1 Hf' σ H' D f.s (q.mono f.f) (k.after f)
theorem s1_ifF {c : Expr} {a b : List Stmt} (hc : DT X E c false) (h : SS X E b o) : S1 X E (.If c a b pos) o := by
  obtain ⟨_, p, r⟩ := hc
  obtain ⟨_, p1, r1⟩ := h
  refine ⟨_, ps_if p pss_never p1, fun Hf σ H D s q k => r Hf σ H s q _ fun Hf' H' f => ?_⟩
  rw [if_neg Bool.false_ne_true]
  exact r1 Hf' σ H' D f.s (q.mono f.f) (k.after f)
/-- if c: return ..; the rest -/
theorem ss_ifR {c : Expr} {a : List Stmt} {k : Bool} (hc : DT X E c k) (h1 : k = true → SS X E a (.rt d)) (h2 : k = false → SS X E rest (.rt d)) : SS X E (.If c a [] pos :: rest) (.rt d) := by
  cases k with
  | true => exact ss_last (s1_ifT hc (h1 rfl))
  | false => exact ss_cons (s1_ifF hc ss_nil) (h2 rfl)
/-! ### several names from a tuple -/
/-- names at slots, from the left -/
def GsAt (X : Cx) : List Expr → List Nat → Prop
  | [], [] => True
  | .Name x _ :: es, i :: is => X.N[i]? = some x ∧ Loc X.env.scope x ∧ (X.fn x = true ∨ X.env.scope.names.lookup x = some .local) ∧ (∀ p, (assignEach (.Name x p :: es) X.env).map (·.2) = assign (.Name x p) X.env :: (assignEach es X.env).map (·.2)) ∧ GsAt X es is
  | _, _ => False
def setAll (E : En) : List Nat → List Dt → En
  | i :: is, d :: ds => setAll (E.set i (some d)) is ds
  | _, _ => E
theorem gs_at (hN : X.N.Nodup) : ∀ {es : List Expr} {is : List Nat}, GsAt X es is → ∃ t, PGs X es t ∧ ∀ (Hf H : Hp) (vs : List V) (ds : List Dt) (σ : L2.St) (E : En) (Q : L2.St → Hp → Prop), Reps Hf vs ds → ds.length = is.length → EnvR Hf σ E → (∀ σ', EnvR Hf σ' (setAll E is ds) → Q σ' H) → t vs σ H Q
  | [], [], _ => ⟨_, pgs_nil, fun Hf H vs ds σ E Q r hl e k => by
    cases r with
    | nil => exact ⟨rfl, k σ e⟩
    | cons _ _ => simp at hl⟩
  | .Name x p :: es, i :: is, h => by
    obtain ⟨h1, h2, h3, h4, h5⟩ := h
    obtain ⟨t, p1, r1⟩ := gs_at hN h5
    refine ⟨_, pgs_cons (pg_name hN h1 h2 h3) p1 (h4 p), fun Hf H vs ds σ E Q r hl e k => ?_⟩
    cases r with
    | nil => simp at hl
    | cons rv rr => exact ⟨_, _, rfl, r1 Hf H _ _ _ _ Q rr (by simpa using hl) (e.set i rv) k⟩
theorem s1_unpack {es : List Expr} {k : Nat} {tp : Pos} {ds : List Dt} {is : List Nat} (hc : X.calm = true) (hN : X.N.Nodup) (h : DE X E e (.tup ds)) (hg : GsAt X es is) (hn : (assignEach es X.env).length = is.length) (hl : ds.length = is.length) (hst : (assignEach es X.env).findIdx? (·.1) = Option.none)
    (hs : swapsWithSole [.Tuple es k tp] e pos.line X.env = pure false) (hw : swappedStores [.Tuple es k tp] e X.env = pure Option.none) (h1 : (assignEach [.Tuple es k tp] X.env).map (·.2) = [assign (.Tuple es k tp) X.env]) :
    S1 X E (.Assign [.Tuple es k tp] e pos) (.nx (setAll E is ds)) := by
  obtain ⟨_, p, r⟩ := h
  obtain ⟨t, p1, r1⟩ := gs_at hN hg
  refine ⟨_, ps_asg p (pg_tup (n := ds.length) hc p1 (hn.trans hl.symm) hst) hs hw h1, fun Hf σ H D s q k => r Hf σ H s q _ fun v Hf' H' f rv => ?_⟩
  cases rv with
  | tup ha rr => exact ⟨_, _, rfl, SqT.of (f.s _ _ ha), rr.length, r1 Hf' H' _ ds σ E _ rr hl (q.mono f.f) fun σ' e' => k σ' Hf' H' f e'⟩
theorem s1_unpackL {es : List Expr} {k : Nat} {tp : Pos} {ds : List Dt} {is : List Nat} (hc : X.calm = true) (hN : X.N.Nodup) (h : DE X E e (.lst ds)) (hg : GsAt X es is) (hn : (assignEach es X.env).length = is.length) (hl : ds.length = is.length) (hst : (assignEach es X.env).findIdx? (·.1) = Option.none)
    (hs : swapsWithSole [.Tuple es k tp] e pos.line X.env = pure false) (hw : swappedStores [.Tuple es k tp] e X.env = pure Option.none) (h1 : (assignEach [.Tuple es k tp] X.env).map (·.2) = [assign (.Tuple es k tp) X.env]) :
    S1 X E (.Assign [.Tuple es k tp] e pos) (.nx (setAll E is ds)) := by
  obtain ⟨_, p, r⟩ := h
  obtain ⟨t, p1, r1⟩ := gs_at hN hg
  refine ⟨_, ps_asg p (pg_unl (n := ds.length) hc p1 (hn.trans hl.symm) hst) hs hw h1, fun Hf σ H D s q k => r Hf σ H s q _ fun v Hf' H' f rv => ?_⟩
  cases rv with
  | lst ha rr => exact ⟨_, _, rfl, SqL.of (f.s _ _ ha), rr.length, r1 Hf' H' _ ds σ E _ rr hl (q.mono f.f) fun σ' e' => k σ' Hf' H' f e'⟩
/-- a, b = e1, e2 -/
theorem s1_par {x y : Str} {a b : Expr} {px py pt : Pos} {kt k2 pt2} {d1 d2 : Dt} (i j : Nat) (hc : X.calm = true) (hN : X.N.Nodup) (hi : X.N[i]? = some x) (hj : X.N[j]? = some y) (hij : i ≠ j)
    (hx : X.env.scope.names.lookup x = some .local) (hy : X.env.scope.names.lookup y = some .local) (ha : DA X E [a, b] [d1, d2]) (hw : swappedStores [.Tuple [.Name x px, .Name y py] kt pt] (.Tuple [a, b] k2 pt2) X.env = pure (some [x, y]))
    (hs : swapsWithSole [.Tuple [.Name x px, .Name y py] kt pt] (.Tuple [a, b] k2 pt2) pos.line X.env = pure false) :
    S1 X E (.Assign [.Tuple [.Name x px, .Name y py] kt pt] (.Tuple [a, b] k2 pt2) pos) (.nx ((E.set i (some d1)).set j (some d2))) := by
  obtain ⟨_, p, r⟩ := ha
  refine ⟨_, ps_par hc hN hi hj hij hx hy p hw hs, fun Hf σ H D s q k => r Hf σ H s q _ fun vs Hf' H' f rv => ?_⟩
  obtain ⟨v, v', rfl, r1, r2⟩ := reps2 rv
  exact ⟨v, v', rfl, k _ Hf' H' f (((q.mono f.f).set i r1).set j r2)⟩
/-! ### while -/
theorem s1_while {c : Expr} {body : List Stmt} {Eo : En} (I : Nat → En → Prop) (hp : PassesOwn (model X.prog X.w) X.A X.env X.xe)
    (hd : ∃ tc tb, PT X c tc ∧ PSs X body tb ∧ ∀ m E, I m E → (EvT tc E true ∧ ∃ m' E', m' < m ∧ I m' E' ∧ Run tb E (.nx E')) ∨ (EvT tc E false ∧ E = Eo)) {m0 : Nat} (h0 : I m0 E) : S1 X E (.While c body [] pos) (.nx Eo) := by
  obtain ⟨tc, tb, p1, p2, turn⟩ := hd
  refine ⟨_, ps_while hp p1 p2, fun Hf σ H D s q k => ?_⟩
  refine ⟨fun m σ' H' => ∃ E' Hf', I m E' ∧ Fr2 Hf H Hf' H' ∧ EnvR Hf' σ' E', ⟨m0, E, Hf, h0, Fr2.refl s, q⟩, ?_⟩
  rintro m σ1 H1 ⟨E1, Hf1, i1, f1, e1⟩
  rcases turn m E1 i1 with ⟨ht, m', E', hm, i', r'⟩ | ⟨hf, rfl⟩
  · refine ht Hf1 σ1 H1 f1.s e1 _ fun Hf2 H2 f2 => ?_
    rw [if_pos rfl]
    refine ⟨fun σ' H' => ∃ Hf', Fr2 Hf H Hf' H' ∧ EnvR Hf' σ' E', fun σ' H' ⟨Hf', f', e'⟩ => ⟨m', hm, E', Hf', i', f', e'⟩, ?_⟩
    exact r' Hf2 σ1 H2 _ f2.s (e1.mono f2.f) fun σ' Hf3 H3 f3 e3 => ⟨Hf3, (f1.trans f2).trans f3, e3⟩
  · refine hf Hf1 σ1 H1 f1.s e1 _ fun Hf2 H2 f2 => ?_
    rw [if_neg Bool.false_ne_true]
    exact k σ1 Hf2 H2 (f1.trans f2) (e1.mono f2.f)
end

/-! ### defs that are worth a datum of their arguments' data -/
def spD (n : Nat) (R : List Dt → Dt → Prop) : Sp := fun vs H Q _ => ∃ Hf ds d, Same Hf H ∧ Reps Hf vs ds ∧ ds.length = n ∧ R ds d ∧ ∀ v Hf' H', Fr2 Hf H Hf' H' → Rep Hf' v d → Q v H'
section
variable (P : Program) (w : World) (K : PySem.W.Frag) (mg : Str → Option Value) (base : Heap)
structure Fn (k : Nat) (x : Str) (n : Nat) (sp : Sp) : Prop where
  ok : ∃ f fd ps, FnOk P w K mg base CX0 k f fd ps sp ∧ mg x = some (.ref f) ∧ PySem.W.keepIn K (.ref f) = true ∧ Binds K fd ps [] ∧ ps.length = n
end
section
variable {X : Cx} {E : En} {a : Expr} {es : List Expr} {pos : Pos} {k j n : Nat} {x : Str} {p : Pos} {R : List Dt → Dt → Prop}
theorem de_call {ds : List Dt} {d : Dt} (F : Fn X.prog X.w X.K X.mg X.base k x n (spD n R)) (hr : Room j X.A) (hk : k ≤ j) (hg : Gl X x) (ha : DA X E (a :: es) ds) (hR : R ds d) (hl : ds.length = n) (hx : ∀ e s', X.xe e s' ∨ True)
    (hdb : (x == ("__debug__" : Str)) = false) (he : starEach (a :: es) X.env = (false, eval a X.env) :: starEach es X.env) (hpl : (backTo pos (starEach es X.env)).any (·.1) = false) : DE X E (.Call (.Name x p) (a :: es) [] pos) d := by
  obtain ⟨f, fd, ps, G, hm, kp, b, _⟩ := F.ok
  obtain ⟨_, p1, r1⟩ := ha
  refine ⟨_, pe_call (ds := []) (dvs := []) (E := E0) G (hr.mono hk) hg hm kp b .nil pass0 p1 hdb he hpl, fun Hf σ H s q Q k => r1 Hf σ H s q _ fun vs Hf1 H1 f1 rs => ?_⟩
  rw [List.append_nil]
  exact ⟨Hf1, ds, d, f1.s, rs, hl, hR, fun v Hf2 H2 f2 rv => k v Hf2 H2 (f1.trans f2) rv⟩
end
/-- the slots at a def's entry -/
abbrev startE (n : Nat) (ds : List Dt) : En := ds.map some ++ List.replicate (n - ds.length) Option.none
theorem reps_env {Hf : Hp} {vs : List V} {ds : List Dt} (r : Reps Hf vs ds) (N : List Str) (hl : ds.length ≤ N.length) : EnvR Hf (L2.start N vs) (startE N.length ds) := by
  have hv := r.length
  refine ⟨by simp [L2.start, startE, hv], fun i d h => ?_⟩
  unfold startE at h
  by_cases hi : i < ds.length
  · rw [List.getElem?_append_left (by simpa using hi), List.getElem?_map] at h
    cases hd : ds[i]? with
    | none => rw [hd] at h; cases h
    | some d' =>
      rw [hd] at h
      cases h
      obtain ⟨v, h1, h2⟩ := r.get hd
      refine ⟨v, ?_, h2⟩
      unfold L2.start
      rw [List.getElem?_append_left (by rw [List.length_map, hv]; exact hi), List.getElem?_map, h1]
      rfl
  · rw [List.getElem?_append_right (by simpa using hi), List.getElem?_replicate] at h
    split at h <;> cases h
section
variable {P : Program} {w : World} {K : PySem.W.Frag} {mg : Str → Option Value} {base : Heap}
/-- the body's context -/
abbrev bx (P : Program) (w : World) (K : PySem.W.Frag) (mg : Str → Option Value) (base : Heap) (N : List Str) (qual : Str) (st : Stmt) (f : Addr) (cdv : Value) (A : Around) (outer : List Env) (s : Shared) (H : Hp) (E : XK) : Cx :=
  (cxOf CX0 P w K mg base N qual (defScope st) f cdv A outer s H E).nox
theorem fn_ok {x qual : Str} {st : Stmt} {f : Addr} {fd : FuncData} {N ps : List Str} {k : Nat} {R : List Dt → Dt → Prop} (F : Fun K x qual st f fd) (S : FnScope N ps (defScope st)) (hle : ps.length ≤ N.length)
    (h : ∀ (cdv : Value) (A : Around) (outer : List Env) (s : Shared) (H : Hp) (E : XK), Room k (A.deeper (envOfC qual (defScope st) s.heap.objs.size f cdv)) → ∀ ds d, ds.length = ps.length → R ds d →
      SS (bx P w K mg base N qual st f cdv A outer s H E) (startE N.length ds) (defBody st) (.rt d)) : FnOk P w K mg base CX0 (k + 1) f fd ps (spD ps.length R) := by
  refine F.ok S (fun vs H Q E h => ?_) (fun cdv A outer s H vs Q E hr hsp => ?_)
  · obtain ⟨_, ds, _, _, r, hl, _⟩ := h
    rw [r.length, hl]
  · obtain ⟨Hf, ds, d, hs, r, hl, hR, q⟩ := hsp
    obtain ⟨t, p, run⟩ := h cdv A outer s H E hr ds d hl hR
    exact ⟨t, p, run Hf _ H _ hs (reps_env r N (by omega)) q⟩
/-- a def that returns nothing -/
theorem fn_okN {x qual : Str} {st : Stmt} {f : Addr} {fd : FuncData} {N ps : List Str} {k : Nat} {R : List Dt → Dt → Prop} (F : Fun K x qual st f fd) (S : FnScope N ps (defScope st)) (hle : ps.length ≤ N.length)
    (h : ∀ (cdv : Value) (A : Around) (outer : List Env) (s : Shared) (H : Hp) (E : XK), Room k (A.deeper (envOfC qual (defScope st) s.heap.objs.size f cdv)) → ∀ ds d, ds.length = ps.length → R ds d →
      d = .non ∧ ∃ Eo, SS (bx P w K mg base N qual st f cdv A outer s H E) (startE N.length ds) (defBody st) (.nx Eo)) : FnOk P w K mg base CX0 (k + 1) f fd ps (spD ps.length R) := by
  refine F.ok S (fun vs H Q E h => ?_) (fun cdv A outer s H vs Q E hr hsp => ?_)
  · obtain ⟨_, ds, _, _, r, hl, _⟩ := h
    rw [r.length, hl]
  · obtain ⟨Hf, ds, d, hs, r, hl, hR, q⟩ := hsp
    obtain ⟨rfl, Eo, t, p, run⟩ := h cdv A outer s H E hr ds d hl hR
    exact ⟨t, p, run Hf _ H _ hs (reps_env r N (by omega)) fun σ' Hf' H' f e' => q .non Hf' H' f .non⟩
theorem Fn.mk' {x qual : Str} {st : Stmt} {f : Addr} {fd : FuncData} {ps : List Str} {k : Nat} {sp : Sp} (F : Fun K x qual st f fd) (G : FnOk P w K mg base CX0 k f fd ps sp) (hm : mg x = some (.ref f)) (b : Binds K fd ps []) : Fn P w K mg base k x ps.length sp := ⟨f, fd, ps, G, hm, F.kp, b, rfl⟩
end
end Br

-- BrTop
namespace Br
open PySem L2 PySem.Spec PyProof.Rows
def top (i : Nat) : Stmt := PySem.Challenge.pw_braemantle_k29_whole_no_crack.main.body.getD i (.Pass ⟨0, 0, 0, 0⟩)
abbrev sLiesIn : Stmt := top 10
abbrev sPlaced : Stmt := top 11
abbrev sOnCorner : Stmt := top 12
abbrev sCutOnly : Stmt := top 13
abbrev sStep : Stmt := top 14
abbrev sAround : Stmt := top 15
abbrev sParents : Stmt := top 16
abbrev sNoted : Stmt := top 18
abbrev sCrack : Stmt := top 19
abbrev sRootsOf : Stmt := top 21
abbrev sRoots : Stmt := top 22
abbrev sMiddle : Stmt := top 23
abbrev sHalved : Stmt := top 24
abbrev sSpread : Stmt := top 26
abbrev sLeaves : Stmt := top 27
abbrev sMesh : Stmt := top 28
abbrev sInit : Stmt := inClass (top 28) 0
abbrev sTri : Stmt := inClass (top 28) 5
abbrev sBag : Stmt := top 30
abbrev sDraw : Stmt := top 31
abbrev sPlan : Stmt := top 32
abbrev sPlaces : Stmt := top 33
abbrev sCorner : Stmt := top 34
abbrev sCuts : Stmt := top 35
abbrev sIn : Stmt := top 36
abbrev sStepL : Stmt := top 37
abbrev sCentre : Stmt := top 38
abbrev sAroundL : Stmt := top 39
abbrev sUps : Stmt := top 40
abbrev sClosed : Stmt := top 41
abbrev sPicks : Stmt := top 42
abbrev sSome : Stmt := top 43
abbrev sMixed : Stmt := top 44
abbrev sCornersOf : Stmt := top 45
abbrev sCross : Stmt := top 46
abbrev sWeigh : Stmt := top 47
abbrev sBetween : Stmt := top 48
abbrev sSideClean : Stmt := top 49
abbrev sLaw : Stmt := top 50
theorem len_ok {ds : List Dt} (h : Nat.ble ds.length 1000 = true) : ds.length ≤ sizeLine := Nat.le_of_lt (small1000 (Nat.le_of_ble_eq_true h))
/-- a name at its slot -/
structure Nm (X : Cx) (i : Nat) (x : Str) : Prop where
  n : X.N[i]? = some x
  v : Vis X.env.scope x
  d1 : (x == ("__debug__" : Str)) = false
  d2 : (x == ("__classdict__" : Str)) = false
theorem de_at {X : Cx} {E : En} {x : Str} {pos : Pos} {d : Dt} (i : Nat) (h : Nm X i x) (hE : E[i]? = some (some d)) : DE X E (.Name x pos) d := de_nm i h.n h.v h.d1 h.d2 hE
/-- a name that is stored -/
structure Ls (X : Cx) (i : Nat) (x : Str) : Prop where
  nd : X.N.Nodup
  n : X.N[i]? = some x
  l : Loc X.env.scope x
  f : X.fn x = true ∨ X.env.scope.names.lookup x = some .local
theorem s1_st {X : Cx} {E : En} {e : Expr} {d : Dt} {x : Str} {p' pos : Pos} (i : Nat) (L : Ls X i x) (h : DE X E e d) (hs : swapsWith e (some (.Name x p')) pos.line X.env = pure false) : S1 X E (.Assign [.Name x p'] e pos) (.nx (E.set i (some d))) := s1_asg i L.nd L.n L.l h hs L.f
/-- the context of a def's body -/
structure Bx (P : Program) (w : World) (K : PySem.W.Frag) (mg : Str → Option Value) (base : Heap) (N : List Str) (st : Stmt) (k : Nat) (X : Cx) : Prop where
  eq : ∃ qual f cdv A outer s H E, X = bx P w K mg base N qual st f cdv A outer s H E
  nd : N.Nodup
  room : Room k X.A
section
variable {P : Program} {w : World} {K : PySem.W.Frag} {mg : Str → Option Value} {base : Heap} {N : List Str} {st : Stmt} {k : Nat} {X : Cx}
theorem Bx.prog (b : Bx P w K mg base N st k X) : X.prog = P := let ⟨_, _, _, _, _, _, _, _, e⟩ := b.eq; e ▸ rfl
theorem Bx.w_ (b : Bx P w K mg base N st k X) : X.w = w := let ⟨_, _, _, _, _, _, _, _, e⟩ := b.eq; e ▸ rfl
theorem Bx.k_ (b : Bx P w K mg base N st k X) : X.K = K := let ⟨_, _, _, _, _, _, _, _, e⟩ := b.eq; e ▸ rfl
theorem Bx.m_ (b : Bx P w K mg base N st k X) : X.mg = mg := let ⟨_, _, _, _, _, _, _, _, e⟩ := b.eq; e ▸ rfl
theorem Bx.b_ (b : Bx P w K mg base N st k X) : X.base = base := let ⟨_, _, _, _, _, _, _, _, e⟩ := b.eq; e ▸ rfl
theorem Bx.n_ (b : Bx P w K mg base N st k X) : X.N = N := let ⟨_, _, _, _, _, _, _, _, e⟩ := b.eq; e ▸ rfl
theorem Bx.sc (b : Bx P w K mg base N st k X) : X.env.scope = defScope st := let ⟨_, _, _, _, _, _, _, _, e⟩ := b.eq; e ▸ rfl
theorem Bx.calm (b : Bx P w K mg base N st k X) : X.calm = true := let ⟨_, _, _, _, _, _, _, _, e⟩ := b.eq; e ▸ rfl
theorem Bx.fn (b : Bx P w K mg base N st k X) (x : Str) : X.fn x = true := let ⟨_, _, _, _, _, _, _, _, e⟩ := b.eq; e ▸ rfl
theorem Bx.xe (b : Bx P w K mg base N st k X) : X.xe = fun _ _ => False := let ⟨_, _, _, _, _, _, _, _, e⟩ := b.eq; e ▸ rfl
theorem Bx.own (b : Bx P w K mg base N st k X) : PassesOwn (model X.prog X.w) X.A X.env X.xe := by
  rw [b.xe]
  exact PassesOwn.never
theorem Bx.hu (b : Bx P w K mg base N st k X) : X.A.units + 1 < cLine := hu_of b.room
theorem Bx.nm (b : Bx P w K mg base N st k X) (i : Nat) (x : Str) (h : N[i]? = some x) (v : Vis (defScope st) x) (d1 : (x == ("__debug__" : Str)) = false) (d2 : (x == ("__classdict__" : Str)) = false) : Nm X i x := ⟨by rw [b.n_]; exact h, by rw [b.sc]; exact v, d1, d2⟩
theorem Bx.ls (b : Bx P w K mg base N st k X) (i : Nat) (x : Str) (h : N[i]? = some x) (v : Loc (defScope st) x) : Ls X i x := ⟨by rw [b.n_]; exact b.nd, by rw [b.n_]; exact h, by rw [b.sc]; exact v, .inl (b.fn x)⟩
theorem Bx.gl (b : Bx P w K mg base N st k X) {x : Str} (h : (defScope st).names.lookup x = some .globalImplicit) : Gl X x := by
  show X.env.scope.names.lookup x = some .globalImplicit
  rw [b.sc]
  exact h
theorem Bx.fn_ {j n : Nat} {x : Str} {sp : Sp} (b : Bx P w K mg base N st k X) (F : Fn P w K mg base j x n sp) : Fn X.prog X.w X.K X.mg X.base j x n sp := by
  rw [b.prog, b.w_, b.k_, b.m_, b.b_]
  exact F
/-- a global def called -/
structure Gf (X : Cx) (x : Str) (n : Nat) (R : List Dt → Dt → Prop) : Prop where
  ok : ∃ k, Fn X.prog X.w X.K X.mg X.base k x n (spD n R) ∧ Room k X.A
  g : Gl X x
  d : (x == ("__debug__" : Str)) = false
theorem Bx.gf {j n : Nat} {x : Str} {R : List Dt → Dt → Prop} (b : Bx P w K mg base N st k X) (F : Fn P w K mg base j x n (spD n R)) (hj : j ≤ k) (h : (defScope st).names.lookup x = some .globalImplicit) (d : (x == ("__debug__" : Str)) = false) : Gf X x n R := ⟨⟨j, b.fn_ F, b.room.mono hj⟩, b.gl h, d⟩
theorem de_gf {E : En} {a : Expr} {es : List Expr} {pos p : Pos} {n : Nat} {x : Str} {R : List Dt → Dt → Prop} {ds : List Dt} {d : Dt} (G : Gf X x n R) (ha : DA X E (a :: es) ds) (hR : R ds d) (hl : ds.length = n)
    (he : starEach (a :: es) X.env = (false, eval a X.env) :: starEach es X.env) (hpl : (backTo pos (starEach es X.env)).any (·.1) = false) : DE X E (.Call (.Name x p) (a :: es) [] pos) d := by
  obtain ⟨k, F, hr⟩ := G.ok
  exact de_call F hr (Nat.le_refl k) G.g ha hR hl (fun _ _ => .inr trivial) G.d he hpl
theorem fn_ok' {x qual : Str} {f : Addr} {fd : FuncData} {ps : List Str} {R : List Dt → Dt → Prop} (F : Fun K x qual st f fd) (S : FnScope N ps (defScope st)) (hle : ps.length ≤ N.length)
    (h : ∀ (X : Cx), Bx P w K mg base N st k X → ∀ ds d, ds.length = ps.length → R ds d → SS X (startE N.length ds) (defBody st) (.rt d)) : FnOk P w K mg base CX0 (k + 1) f fd ps (spD ps.length R) :=
  fn_ok F S hle fun cdv A outer s H E hr ds d hl hR => h _ ⟨⟨qual, f, cdv, A, outer, s, H, E, rfl⟩, S.nd, hr⟩ ds d hl hR
theorem fn_okN' {x qual : Str} {f : Addr} {fd : FuncData} {ps : List Str} {R : List Dt → Dt → Prop} (F : Fun K x qual st f fd) (S : FnScope N ps (defScope st)) (hle : ps.length ≤ N.length)
    (h : ∀ (X : Cx), Bx P w K mg base N st k X → ∀ ds d, ds.length = ps.length → R ds d → d = .non ∧ ∃ Eo, SS X (startE N.length ds) (defBody st) (.nx Eo)) : FnOk P w K mg base CX0 (k + 1) f fd ps (spD ps.length R) :=
  fn_okN F S hle fun cdv A outer s H E hr ds d hl hR => h _ ⟨⟨qual, f, cdv, A, outer, s, H, E, rfl⟩, S.nd, hr⟩ ds d hl hR
end
end Br

-- BrLc
namespace Br
open PySem L2 PySem.Spec PyProof.Rows

/-! ### an object of one's own at D, that changes -/
structure FrD (D : Addr) (Hf H Hf' H' : Hp) : Prop where
  f : Same Hf Hf'
  h : Same H H'
  s : Same Hf' H'
  n : ∀ a o, H a = some o → NT o → Hf a = Option.none → Hf' a = Option.none
  d : Hf' D = Option.none
  d0 : H D = Option.none
theorem FrD.new {D : Addr} {Hf H : Hp} (s : Same Hf H) (hD : H D = Option.none) (o : HO) : FrD D Hf H Hf (upd H D o) := ⟨Same.refl _, same_new hD o, s.trans (same_new hD o), fun _ _ _ _ h => h, s.free hD, hD⟩
theorem FrD.go {D : Addr} {Hf H Hf1 H1 Hf2 H2 : Hp} (a : FrD D Hf H Hf1 H1) {xs : List V} (hD : H1 D = some (.lst xs)) (b : Fr2 Hf1 H1 Hf2 H2) : FrD D Hf H Hf2 H2 :=
  ⟨a.f.trans b.f, a.h.trans b.h, b.s, fun c u e t n => b.n c u (a.h c u e) t (a.n c u e t n), b.n D _ hD (fun _ z => nomatch z) a.d, a.d0⟩
theorem FrD.put {D : Addr} {Hf H Hf1 H1 : Hp} (a : FrD D Hf H Hf1 H1) (o : HO) : FrD D Hf H Hf1 (upd H1 D o) :=
  ⟨a.f, fun c u e => by rw [upd_ne (ne_of_none e a.d0)]; exact a.h c u e, fun c u e => by rw [upd_ne (ne_of_none e a.d)]; exact a.s c u e, a.n, a.d, a.d0⟩
/-- it is given to the data -/
theorem FrD.adopt {D : Addr} {Hf H Hf1 H1 : Hp} (a : FrD D Hf H Hf1 H1) {o : HO} (hD : H1 D = some o) : Fr2 Hf H (upd Hf1 D o) H1 := by
  refine ⟨fun c u e => ?_, a.h, fun c u e => ?_, fun c u e t n => ?_⟩
  · rw [upd_ne (ne_of_none (a.f c u e) a.d)]
    exact a.f c u e
  · by_cases hc : c = D
    · subst hc
      rw [upd_same] at e
      rw [hD, ← e]
    · rw [upd_ne hc] at e
      exact a.s c u e
  · rw [upd_ne (ne_of_none e a.d0)]
    exact a.n c u e t n
theorem FrD.same {D : Addr} {Hf H Hf1 H1 : Hp} (a : FrD D Hf H Hf1 H1) (o : HO) : Same Hf1 (upd Hf1 D o) := same_new a.d o
/-! ### a reading by what it is worth in a class of contexts -/
def sE (C : Cx → Prop) (e : Expr) : TE := fun σ H Q => ∃ E d Hf, (∀ c, C c → DE c E e d) ∧ Same Hf H ∧ EnvR Hf σ E ∧ ∀ v Hf' H', Fr2 Hf H Hf' H' → Rep Hf' v d → Q v H'
theorem pe_sE {C : Cx → Prop} {e : Expr} {c : Cx} (h : C c) : PE c e (sE C e) := ⟨fun pins s σ H Q I ⟨E, d, Hf, hd, hs, he, q⟩ => by
  obtain ⟨t, p, r⟩ := hd c h
  exact p.run pins s σ H Q I (r Hf σ H hs he Q q)⟩
theorem ev_sE {C : Cx → Prop} {e : Expr} {E : En} {d : Dt} (h : ∀ c, C c → DE c E e d) : Ev (sE C e) E d := fun Hf σ H s he Q q => ⟨E, d, Hf, h, s, he, q⟩
def sT (C : Cx → Prop) (e : Expr) : TT := fun σ H Q => ∃ E b Hf, (∀ c, C c → DT c E e b) ∧ Same Hf H ∧ EnvR Hf σ E ∧ ∀ Hf' H', Fr2 Hf H Hf' H' → Q b H'
theorem pt_sT {C : Cx → Prop} {e : Expr} {c : Cx} (h : C c) : PT c e (sT C e) := ⟨fun pins s σ H Q I ⟨E, d, Hf, hd, hs, he, q⟩ => by
  obtain ⟨t, p, r⟩ := hd c h
  exact p.run pins s σ H Q I (r Hf σ H hs he Q q)⟩
theorem ev_sT {C : Cx → Prop} {e : Expr} {E : En} {b : Bool} (h : ∀ c, C c → DT c E e b) : EvT (sT C e) E b := fun Hf σ H s he Q q => ⟨E, b, Hf, h, s, he, q⟩
def sS (C : Cx → Prop) (b : List Stmt) : TS := fun D σ H => ∃ E o Hf, (∀ c, C c → SS c E b o) ∧ Same Hf H ∧ EnvR Hf σ E ∧ OutTo Hf H D o
theorem ps_sS {C : Cx → Prop} {b : List Stmt} {c : Cx} (h : C c) : PSs c b (sS C b) := ⟨fun pins s σ H D I ⟨E, o, Hf, hd, hs, he, q⟩ => by
  obtain ⟨t, p, r⟩ := hd c h
  exact p.run pins s σ H D I (r Hf σ H D hs he q)⟩
theorem run_sS {C : Cx → Prop} {b : List Stmt} {E : En} {o : Out} (h : ∀ c, C c → SS c E b o) : Run (sS C b) E o := fun Hf σ H D s he q => ⟨E, o, Hf, h, s, he, q⟩
/-- while, by what test and body are worth at each turn -/
theorem s1_whileD {X : Cx} {E : En} {c : Expr} {body : List Stmt} {pos : Pos} {Eo : En} (I : Nat → En → Prop) (hp : PassesOwn (model X.prog X.w) X.A X.env X.xe) (m0 : Nat) (h0 : I m0 E)
    (h : ∀ m E, I m E → (DT X E c true ∧ ∃ m' E', m' < m ∧ I m' E' ∧ SS X E body (.nx E')) ∨ (DT X E c false ∧ E = Eo)) : S1 X E (.While c body [] pos) (.nx Eo) := by
  refine s1_while I hp ⟨sT (· = X) c, sS (· = X) body, pt_sT rfl, ps_sS rfl, fun m E hi => ?_⟩ h0
  rcases h m E hi with ⟨ht, m', E', hm, hi', hs⟩ | ⟨hf, e⟩
  · exact .inl ⟨ev_sT fun c hc => by cases hc; exact ht, m', E', hm, hi', run_sS fun c hc => by cases hc; exact hs⟩
  · exact .inr ⟨ev_sT fun c hc => by cases hc; exact hf, e⟩
theorem s1_aug {X : Cx} {E : En} {op : Operator} {C : Int → Int → Prop} {g : Int → Int → Int} {e : Expr} {x : Str} {p' pos : Pos} {a b : Int} (i : Nat) (L : Ls X i x) (ho : PIp X op (rI C fun i j => .int (g i j))) (hE : E[i]? = some (some (.int a))) (he : DE X E e (.int b)) (hc : C a b) :
    S1 X E (.AugAssign (.Name x p') op e pos) (.nx (E.set i (some (.int (g a b))))) := by
  obtain ⟨_, p, r⟩ := he
  refine ⟨_, ps_aug L.nd L.n L.l p ho L.f, fun Hf σ H D s q k => ?_⟩
  obtain ⟨v, h1, h2⟩ := q.at_ i _ hE
  refine ⟨v, h1, r Hf σ H s q _ fun u Hf' H' f ru => ?_⟩
  cases h2
  cases ru
  exact ⟨a, b, rfl, rfl, hc, k _ Hf' H' f ((q.mono f.f).set i (.int _))⟩
/-! ### the context of a comprehension's block -/
structure Blk (X : Cx) (scope : Scope) (c : Cx) : Prop where
  eq : ∃ s H C cl fp, c = X.blk s H scope (compEnvC scope cl C X.env) fp
section
variable {X c : Cx} {scope : Scope}
theorem Blk.nm (b : Blk X scope c) (i : Nat) (x : Str) (h : X.N[i]? = some x) (v : Vis (relS scope X.env.scope) x) (d1 : (x == ("__debug__" : Str)) = false) (d2 : (x == ("__classdict__" : Str)) = false) : Nm c i x := by
  obtain ⟨s, H, C, cl, fp, rfl⟩ := b.eq
  exact ⟨h, v, d1, d2⟩
theorem Blk.gl (b : Blk X scope c) {x : Str} (h : (relS scope X.env.scope).names.lookup x = some .globalImplicit) : Gl c x := by
  obtain ⟨s, H, C, cl, fp, rfl⟩ := b.eq
  exact h
theorem Blk.gf {x : Str} {n : Nat} {R : List Dt → Dt → Prop} (b : Blk X scope c) (g : Gf X x n R) (h : (relS scope X.env.scope).names.lookup x = some .globalImplicit) : Gf c x n R := by
  have gl := b.gl h
  obtain ⟨s, H, C, cl, fp, rfl⟩ := b.eq
  exact ⟨g.ok, gl, g.d⟩
end
theorem Blk.gfn {P : Program} {w : World} {K : PySem.W.Frag} {mg : Str → Option Value} {base : Heap} {N : List Str} {st : Stmt} {k j n : Nat} {X c : Cx} {scope : Scope} {x : Str} {R : List Dt → Dt → Prop} (cb : Blk X scope c) (b : Bx P w K mg base N st k X) (F : Fn P w K mg base j x n (spD n R)) (hj : j ≤ k)
    (h : (relS scope (defScope st)).names.lookup x = some .globalImplicit) (d : (x == ("__debug__" : Str)) = false) : Gf c x n R := by
  have gl := cb.gl (x := x) (by rw [b.sc]; exact h)
  have F' := b.fn_ F
  have hr := b.room
  obtain ⟨s, H, C, cl, fp, rfl⟩ := cb.eq
  exact ⟨⟨j, F', hr.mono hj⟩, gl, d⟩
/-! ### [elt for x in iter if ..], iter a tuple or a list of data -/
theorem blk_pg {X : Cx} {scope : Scope} {i : Nat} {x : Str} {p : Pos} (hN : X.N.Nodup) (hi : X.N[i]? = some x) (hl : scope.names.lookup x = some .local) (hl' : Loc (relS scope X.env.scope) x) (hf : (relS scope X.env.scope).names.lookup x = some .local) :
    ∀ (s : Shared) (H : Hp) (C : Addr) (cl : List (Str × Addr)) (fp : List Addr), PG (X.blk s H scope (compEnvC scope cl C X.env) fp) (.Name x p) (gName i) := fun s H C cl fp => pg_name hN hi hl' (.inr hf)
/-- a comprehension's tests, none or one -/
inductive Ifs (C : Cx → Prop) (E : En) : List Expr → Bool → Prop
  | nil : Ifs C E [] true
  | one {e : Expr} {b : Bool} (h : ∀ c, C c → DT c E e b) : Ifs C E [e] b
def sTs (C : Cx → Prop) : List Expr → TT
  | [e] => sT C e
  | _ => tYes
theorem pts_sTs {C : Cx → Prop} {ifs : List Expr} (hl : ifs.length ≤ 1) {c : Cx} (h : C c) : PTs c ifs (sTs C ifs) := by
  match ifs, hl with
  | [], _ => exact pts_nil
  | [e], _ => exact pts_one (pt_sT h)
theorem ev_sTs {C : Cx → Prop} {E : En} {ifs : List Expr} {b : Bool} (h : Ifs C E ifs b) : EvT (sTs C ifs) E b := by
  cases h with
  | nil => exact fun Hf σ H s e Q q => q Hf H (Fr2.refl s)
  | one h => exact ev_sT h
theorem wipe1 {σ : L2.St} {i : Nat} (v : Option V) : wipe ((wipe σ [i]).set i v) [i] = wipe σ [i] := by
  show ((σ.set i Option.none).set i v).set i Option.none = σ.set i Option.none
  rw [List.set_set, List.set_set]
section
variable {X : Cx} {E : En} {elt iter : Expr} {ifs : List Expr} {scope : Scope} {pos p : Pos} {x : Str} {i : Nat} {ds : List Dt} {f : Dt → Bool} {g : Dt → Dt}
/-- the list so far -/
def PvLc (f : Dt → Bool) (g : Dt → Dt) (ds : List Dt) (D : Addr) (Hf H : Hp) (k : Nat) (H' : Hp) : Prop := ∃ Hf' acc, FrD D Hf H Hf' H' ∧ H' D = some (.lst acc) ∧ Reps Hf' acc (((ds.take k).filter f).map g)
theorem lc_step {C : Cx → Prop} {D : Addr} {Hf H H' : Hp} {k : Nat} {v : V} {d : Dt} {σ : L2.St} (hz : ds.length < sizeLine) (hd : ds[k]? = some d) (hv : Rep Hf v d) (he : EnvR Hf σ E) (hi : ∀ d, d ∈ ds → Ifs C ((wipeE E [i]).set i (some d)) ifs (f d) ∧ (f d = true → ∀ c, C c → DE c ((wipeE E [i]).set i (some d)) elt (g d)))
    (hp : PvLc f g ds D Hf H k H') : gName i v (wipe σ [i]) H' fun σ2 H2 => wipe σ2 [i] = wipe σ [i] ∧ sTs C ifs σ2 H2 fun b H3 => if b = true then sE C elt σ2 H3 fun y H4 => ∃ acc, H4 D = some (.lst acc) ∧ acc.length < sizeLine ∧ PvLc f g ds D Hf H (k + 1) (upd H4 D (.lst (acc ++ [y]))) else PvLc f g ds D Hf H (k + 1) H3 := by
  obtain ⟨Hf', acc, fd, hD, hr⟩ := hp
  have hk : k < ds.length := (List.getElem?_eq_some_iff.mp hd).1
  have ht : ds.take (k + 1) = ds.take k ++ [d] := by rw [List.take_succ, hd]; rfl
  obtain ⟨h1, h2⟩ := hi d (List.mem_of_getElem? hd)
  have e1 : EnvR Hf' ((wipe σ [i]).set i (some v)) ((wipeE E [i]).set i (some d)) := ((he.wipe [i]).mono fd.f).set i (hv.mono fd.f)
  refine ⟨wipe1 _, ev_sTs h1 Hf' _ H' fd.s e1 _ fun Hf2 H2 f2 => ?_⟩
  have fd2 := fd.go hD f2
  have hD2 := f2.h _ _ hD
  cases hb : f d with
  | false =>
    rw [if_neg Bool.false_ne_true]
    refine ⟨Hf2, acc, fd2, hD2, ?_⟩
    rw [ht, List.filter_append, List.filter_cons, hb]
    simpa using hr.mono f2.f
  | true =>
    rw [if_pos rfl]
    refine ev_sE (h2 hb) Hf2 _ H2 f2.s (e1.mono f2.f) _ fun y Hf3 H3 f3 ry => ?_
    have fd3 := fd2.go hD2 f3
    have hl : acc.length ≤ ds.length := by
      rw [hr.length, List.length_map]
      exact Nat.le_trans (List.length_filter_le _ _) (by rw [List.length_take]; omega)
    refine ⟨acc, f3.h _ _ hD2, by omega, Hf3, acc ++ [y], fd3.put _, upd_same, ?_⟩
    rw [ht, List.filter_append, List.map_append, List.filter_cons, hb]
    exact ((hr.mono f2.f).mono f3.f).append (.cons ry .nil)
theorem lc_end {D : Addr} {Hf H H' : Hp} {Q : VK} (q : ∀ v Hf' H', Fr2 Hf H Hf' H' → Rep Hf' v (.lst ((ds.filter f).map g)) → Q v H') (hp : PvLc f g ds D Hf H ds.length H') : Q (.ref D) H' := by
  obtain ⟨Hf', acc, fd, hD, hr⟩ := hp
  rw [List.take_length] at hr
  exact q _ _ H' (fd.adopt hD) (.lst upd_same (hr.mono (fd.same _)))
theorem de_lcT (hc : X.calm = true) (hN : X.N.Nodup) (ok : BlkOk X.N X.env.scope scope [(x, i)]) (hg : ∀ (s : Shared) (H : Hp) (C : Addr) (cl : List (Str × Addr)) (fp : List Addr), PG (X.blk s H scope (compEnvC scope cl C X.env) fp) (.Name x p) (gName i))
    (hl : ifs.length ≤ 1) (hs : ∀ x, foldedSetIterable iter X.env x = pure x) (ha : DE X E iter (.tup ds)) (hz : ds.length < sizeLine)
    (hi : ∀ d, d ∈ ds → Ifs (Blk X scope) ((wipeE E [i]).set i (some d)) ifs (f d) ∧ (f d = true → ∀ c, Blk X scope c → DE c ((wipeE E [i]).set i (some d)) elt (g d))) :
    DE X E (.ListComp elt [⟨.Name x p, iter, ifs, 0⟩] scope pos) (.lst ((ds.filter f).map g)) := by
  obtain ⟨_, p1, r1⟩ := ha
  refine ⟨_, pe_lc (own := [(x, i)]) (tt := sTs (Blk X scope) ifs) (te := sE (Blk X scope) elt) hc hN (pi_tup p1) ok hg (fun s H C cl fp => pts_sTs hl ⟨s, H, C, cl, fp, rfl⟩) (fun s H C cl fp => pe_sE ⟨s, H, C, cl, fp, rfl⟩) hs, fun Hf σ H s e Q q => r1 Hf σ H s e _ fun v Hf1 H1 f1 rv => ?_⟩
  cases rv with
  | @tup a xs _ hx rx =>
    refine ⟨a, rfl, ⟨xs, SqT.of (f1.s _ _ hx)⟩, fun D hD => lc_tup (xs := xs) (PvLc f g ds D Hf1 H1) ⟨Hf1, [], FrD.new f1.s hD _, upd_same, by simpa using Reps.nil⟩ (fun k H' _ ⟨_, _, fd, _⟩ => SqT.of (fd.h _ _ (f1.s _ _ hx))) (fun k v H' hv hp => ?_) (fun H' hp => ?_)⟩
    · obtain ⟨d, hd, rd⟩ := rx.getV hv
      exact lc_step hz hd rd (e.mono f1.f) hi hp
    · rw [rx.length] at hp
      exact lc_end (fun v Hf' H' f' r' => q v Hf' H' (f1.trans f') r') hp
theorem de_lcL (hc : X.calm = true) (hN : X.N.Nodup) (ok : BlkOk X.N X.env.scope scope [(x, i)]) (hg : ∀ (s : Shared) (H : Hp) (C : Addr) (cl : List (Str × Addr)) (fp : List Addr), PG (X.blk s H scope (compEnvC scope cl C X.env) fp) (.Name x p) (gName i))
    (hl : ifs.length ≤ 1) (hs : ∀ x, foldedSetIterable iter X.env x = pure x) (ha : DE X E iter (.lst ds)) (hz : ds.length < sizeLine)
    (hi : ∀ d, d ∈ ds → Ifs (Blk X scope) ((wipeE E [i]).set i (some d)) ifs (f d) ∧ (f d = true → ∀ c, Blk X scope c → DE c ((wipeE E [i]).set i (some d)) elt (g d))) :
    DE X E (.ListComp elt [⟨.Name x p, iter, ifs, 0⟩] scope pos) (.lst ((ds.filter f).map g)) := by
  obtain ⟨_, p1, r1⟩ := ha
  refine ⟨_, pe_lc (own := [(x, i)]) (tt := sTs (Blk X scope) ifs) (te := sE (Blk X scope) elt) hc hN (pi_list p1) ok hg (fun s H C cl fp => pts_sTs hl ⟨s, H, C, cl, fp, rfl⟩) (fun s H C cl fp => pe_sE ⟨s, H, C, cl, fp, rfl⟩) hs, fun Hf σ H s e Q q => r1 Hf σ H s e _ fun v Hf1 H1 f1 rv => ?_⟩
  cases rv with
  | @lst a xs _ hx rx =>
    refine ⟨a, rfl, ⟨xs, SqL.of (f1.s _ _ hx)⟩, fun D hD => lc_list (xs := xs) (PvLc f g ds D Hf1 H1) ⟨Hf1, [], FrD.new f1.s hD _, upd_same, by simpa using Reps.nil⟩ (fun k H' _ ⟨_, _, fd, _⟩ => SqL.of (fd.h _ _ (f1.s _ _ hx))) (fun k v H' hv hp => ?_) (fun H' hp => ?_)⟩
    · obtain ⟨d, hd, rd⟩ := rx.getV hv
      exact lc_step hz hd rd (e.mono f1.f) hi hp
    · rw [rx.length] at hp
      exact lc_end (fun v Hf' H' f' r' => q v Hf' H' (f1.trans f') r') hp
end
end Br

-- BrA
namespace Br
open PySem L2 PySem.Spec PyProof.Rows
local macro_rules | `(tactic| walk_at "side") => `(tactic| first | assumption | omega | decide | (left; constructor <;> omega) | (right; constructor <;> omega) | (constructor <;> omega))
set_option hygiene false in
local macro_rules | `(tactic| walk_at "nm") => `(tactic| first
  | ((with_reducible apply de_at 0 nm0); rfl) | ((with_reducible apply de_at 1 nm1); rfl) | ((with_reducible apply de_at 2 nm2); rfl) | ((with_reducible apply de_at 3 nm3); rfl)
  | ((with_reducible apply de_at 4 nm4); rfl) | ((with_reducible apply de_at 5 nm5); rfl) | ((with_reducible apply de_at 6 nm6); rfl) | ((with_reducible apply de_at 7 nm7); rfl) | ((with_reducible apply de_at 8 nm8); rfl))
set_option hygiene false in
local macro_rules | `(tactic| walk_at "gf") => `(tactic| first | (with_reducible apply de_gf gf0) | (with_reducible apply de_gf gf1) | (with_reducible apply de_gf gf2) | (with_reducible apply de_gf gf3))
set_option hygiene false in
local macro_rules | `(tactic| walk_at "ev") => `(tactic| first
  | walk_at "nm" | exact de_int | exact de_bool | exact de_non
  | (apply de_add; walk_at "ev"; walk_at "ev") | (apply de_sub; walk_at "ev"; walk_at "ev")
  | (apply de_mul; walk_at "ev"; walk_at "ev"; walk_at "side")
  | (apply de_mod; walk_at "ev"; walk_at "ev"; walk_at "side")
  | (apply de_fdiv; walk_at "ev"; walk_at "ev"; walk_at "side")
  | (apply de_ixT0; walk_at "ev"; rfl)
  | (apply de_ixL0; walk_at "ev"; rfl)
  | (apply de_cmp cmp_eq; walk_at "ev"; walk_at "ev") | (apply de_cmp cmp_ne; walk_at "ev"; walk_at "ev") | (apply de_cmp cmp_lt; walk_at "ev"; walk_at "ev")
  | (apply de_cmp cmp_le; walk_at "ev"; walk_at "ev") | (apply de_cmp cmp_gt; walk_at "ev"; walk_at "ev")
  | (apply de_chain cmp_le cmp_le (by with_unfolding_all rfl); walk_at "ev"; walk_at "ev"; walk_at "ev")
  | (apply de_one; walk_at "ev")
  | (apply de_and; walk_at "ev"; (intro _); walk_at "ev")
  | (apply de_or; walk_at "ev"; (intro _); walk_at "ev")
  | (apply de_not; walk_at "ev")
  | (apply de_tup; walk_at "evs"; exact len_ok rfl)
  | (apply de_lst; walk_at "evs"; exact len_ok rfl)
  | (walk_at "gf"; walk_at "evs"; walk_at "call"; rfl; rfl; rfl))
set_option hygiene false in
local macro_rules | `(tactic| walk_at "evs") => `(tactic| first | exact da_nil | (apply da_cons; walk_at "ev"; walk_at "evs"; rfl))
set_option hygiene false in
local macro_rules | `(tactic| walk_at "et") => `(tactic| first
  | (apply dt_cmp cmp_eq; walk_at "ev"; walk_at "ev") | (apply dt_cmp cmp_ne; walk_at "ev"; walk_at "ev") | (apply dt_cmp cmp_lt; walk_at "ev"; walk_at "ev")
  | (apply dt_cmp cmp_le; walk_at "ev"; walk_at "ev") | (apply dt_cmp cmp_gt; walk_at "ev"; walk_at "ev")
  | (apply dt_not; walk_at "et")
  | (apply dt_w; walk_at "ew")
  | (apply dt_val; walk_at "ev"; (intro _); rfl))
set_option hygiene false in
local macro_rules | `(tactic| walk_at "ew") => `(tactic| first
  | (apply dw_and1; walk_at "et") | (apply dw_or1; walk_at "et")
  | (apply dw_and; walk_at "et"; (intro _); walk_at "ew")
  | (apply dw_or; walk_at "et"; (intro _); walk_at "ew"))
local macro_rules | `(tactic| walk_at "call") => `(tactic| (constructor <;> walk_at "side"))
/-! ### data -/
abbrev pt (x y : Int) : Dt := .tup [.int x, .int y]
abbrev pl (w d s : Int) : Dt := .tup [.int w, .int d, .int s]
abbrev tr (a b c d e f : Int) : Dt := .tup [.int a, .int b, .int c, .int d, .int e, .int f]
abbrev p2 (a b c d : Int) : Dt := .tup [pt a b, pt c d]
abbrev Sm (i : Int) : Prop := -1000 < i ∧ i < 1000
def inB (w d s x y : Int) : Bool := (decide (0 ≤ x) && decide (x ≤ w * s)) && (decide (0 ≤ y) && decide (y ≤ d * s))
def onC (s x y : Int) : Bool := decide (x % s = 0) && decide (y % s = 0)
inductive RLies : List Dt → Dt → Prop
  | mk {w d s x y : Int} (h1 : Sm w) (h2 : Sm d) (h3 : Sm s) : RLies [pl w d s, pt x y] (.bool (inB w d s x y))
inductive RPlaced : List Dt → Dt → Prop
  | mk {w d s x y : Int} (h1 : Sm w) (h2 : Sm d) (h3 : Sm s) (h : inB w d s x y = true) : RPlaced [pl w d s, pt x y] .non
inductive ROnC : List Dt → Dt → Prop
  | mk {w d s x y : Int} (h3 : 0 < s) : ROnC [pl w d s, pt x y] (.bool (onC s x y))
inductive RCutOnly : List Dt → Dt → Prop
  | mk {w d s x y : Int} (h1 : Sm w) (h2 : Sm d) (h3 : Sm s) (h0 : 0 < s) (h : inB w d s x y = true) (hc : onC s x y = false) : RCutOnly [pl w d s, pt x y] .non
section
variable {P : Program} {w : World} {K : PySem.W.Frag} {mg : Str → Option Value} {base : Heap}
theorem scLies : FnScope ["plan", "at", "wide", "deep", "side", "x", "y"] ["plan", "at"] (defScope sLiesIn) := ⟨rfl, rfl, rfl, by decide +kernel, rfl, by decide +kernel, by decide +kernel⟩
theorem ok_lies {f : Addr} {fd : FuncData} (F : Fun K "lies_in" "lies_in" sLiesIn f fd) : FnOk P w K mg base CX0 1 f fd ["plan", "at"] (spD 2 RLies) := by
  refine fn_ok' F scLies (by decide) fun X b ds r hl hR => ?_
  cases hR with | @mk w d s x y h1 h2 h3 => ?_
  have nm0 := b.nm 0 "plan" rfl (.inl rfl) (by decide) (by decide)
  have nm1 := b.nm 1 "at" rfl (.inl rfl) (by decide) (by decide)
  have nm2 := b.nm 2 "wide" rfl (.inl rfl) (by decide) (by decide)
  have nm3 := b.nm 3 "deep" rfl (.inl rfl) (by decide) (by decide)
  have nm4 := b.nm 4 "side" rfl (.inl rfl) (by decide) (by decide)
  have nm5 := b.nm 5 "x" rfl (.inl rfl) (by decide) (by decide)
  have nm6 := b.nm 6 "y" rfl (.inl rfl) (by decide) (by decide)
  have ls2 := b.ls 2 "wide" rfl (.inl rfl)
  have ls3 := b.ls 3 "deep" rfl (.inl rfl)
  have ls4 := b.ls 4 "side" rfl (.inl rfl)
  have ls5 := b.ls 5 "x" rfl (.inl rfl)
  have ls6 := b.ls 6 "y" rfl (.inl rfl)
  conv in defBody _ => whnf
  apply ss_cons
  · apply s1_unpack (is := [2, 3, 4]) b.calm ls2.nd
    · walk_at "ev"
    · exact ⟨ls2.n, ls2.l, ls2.f, fun _ => rfl, ls3.n, ls3.l, ls3.f, fun _ => rfl, ls4.n, ls4.l, ls4.f, fun _ => rfl, trivial⟩
    all_goals rfl
  apply ss_cons
  · apply s1_unpack (is := [5, 6]) b.calm ls5.nd
    · walk_at "ev"
    · exact ⟨ls5.n, ls5.l, ls5.f, fun _ => rfl, ls6.n, ls6.l, ls6.f, fun _ => rfl, trivial⟩
    all_goals rfl
  exact ss_last (s1_ret (by walk_at "ev"))
theorem scPlaced : FnScope ["plan", "at"] ["plan", "at"] (defScope sPlaced) := ⟨rfl, rfl, rfl, by decide +kernel, rfl, by decide +kernel, by decide +kernel⟩
theorem ok_placed {f : Addr} {fd : FuncData} (F : Fun K "placed" "placed" sPlaced f fd) (gL : Fn P w K mg base 1 "lies_in" 2 (spD 2 RLies)) : FnOk P w K mg base CX0 2 f fd ["plan", "at"] (spD 2 RPlaced) := by
  refine fn_okN' F scPlaced (by decide) fun X b ds r hl hR => ?_
  cases hR with | @mk w d s x y h1 h2 h3 h => ?_
  have nm0 := b.nm 0 "plan" rfl (.inl rfl) (by decide) (by decide)
  have nm1 := b.nm 1 "at" rfl (.inl rfl) (by decide) (by decide)
  have gf0 := b.gf gL (by decide) rfl (by decide)
  conv in defBody _ => whnf
  refine ⟨rfl, startE 2 [pl w d s, pt x y], ?_⟩
  apply ss_cons
  · apply s1_ifF
    · apply DT.is
      · walk_at "et"
      · rw [h]; rfl
    · exact ss_nil
  exact ss_nil
theorem scOnC : FnScope ["plan", "at"] ["plan", "at"] (defScope sOnCorner) := ⟨rfl, rfl, rfl, by decide +kernel, rfl, by decide +kernel, by decide +kernel⟩
theorem ok_onC {f : Addr} {fd : FuncData} (F : Fun K "on_corner" "on_corner" sOnCorner f fd) : FnOk P w K mg base CX0 1 f fd ["plan", "at"] (spD 2 ROnC) := by
  refine fn_ok' F scOnC (by decide) fun X b ds r hl hR => ?_
  cases hR with | @mk w d s x y h3 => ?_
  have nm0 := b.nm 0 "plan" rfl (.inl rfl) (by decide) (by decide)
  have nm1 := b.nm 1 "at" rfl (.inl rfl) (by decide) (by decide)
  conv in defBody _ => whnf
  exact ss_last (s1_ret (by walk_at "ev"))
theorem scCutOnly : FnScope ["plan", "at"] ["plan", "at"] (defScope sCutOnly) := ⟨rfl, rfl, rfl, by decide +kernel, rfl, by decide +kernel, by decide +kernel⟩
theorem ok_cutOnly {f : Addr} {fd : FuncData} (F : Fun K "cut_only" "cut_only" sCutOnly f fd) (gP : Fn P w K mg base 2 "placed" 2 (spD 2 RPlaced)) (gC : Fn P w K mg base 1 "on_corner" 2 (spD 2 ROnC)) : FnOk P w K mg base CX0 3 f fd ["plan", "at"] (spD 2 RCutOnly) := by
  refine fn_okN' F scCutOnly (by decide) fun X b ds r hl hR => ?_
  cases hR with | @mk w d s x y h1 h2 h3 h0 h hc => ?_
  have nm0 := b.nm 0 "plan" rfl (.inl rfl) (by decide) (by decide)
  have nm1 := b.nm 1 "at" rfl (.inl rfl) (by decide) (by decide)
  have gf0 := b.gf gP (by decide) rfl (by decide)
  have gf1 := b.gf gC (by decide) rfl (by decide)
  conv in defBody _ => whnf
  refine ⟨rfl, startE 2 [pl w d s, pt x y], ?_⟩
  apply ss_cons
  · apply s1_expr
    · walk_at "ev"
    · rfl
  apply ss_cons
  · apply s1_ifF
    · apply DT.is
      · walk_at "et"
      · exact hc
    · exact ss_nil
  exact ss_nil
end
end Br

-- BrB
namespace Br
open PySem L2 PySem.Spec PyProof.Rows
local macro_rules | `(tactic| walk_at "side") => `(tactic| first | assumption | omega | decide | (left; constructor <;> omega) | (right; constructor <;> omega) | (constructor <;> omega))
set_option hygiene false in
local macro_rules | `(tactic| walk_at "nm") => `(tactic| first
  | ((with_reducible apply de_at 0 nm0); rfl) | ((with_reducible apply de_at 1 nm1); rfl) | ((with_reducible apply de_at 2 nm2); rfl) | ((with_reducible apply de_at 3 nm3); rfl)
  | ((with_reducible apply de_at 4 nm4); rfl) | ((with_reducible apply de_at 5 nm5); rfl) | ((with_reducible apply de_at 6 nm6); rfl) | ((with_reducible apply de_at 7 nm7); rfl) | ((with_reducible apply de_at 8 nm8); rfl))
set_option hygiene false in
local macro_rules | `(tactic| walk_at "gf") => `(tactic| first | (with_reducible apply de_gf gf0) | (with_reducible apply de_gf gf1) | (with_reducible apply de_gf gf2) | (with_reducible apply de_gf gf3))
set_option hygiene false in
local macro_rules | `(tactic| walk_at "ev") => `(tactic| first
  | walk_at "nm" | exact de_int | exact de_bool | exact de_non
  | (apply de_add; walk_at "ev"; walk_at "ev") | (apply de_sub; walk_at "ev"; walk_at "ev")
  | (apply de_mul; walk_at "ev"; walk_at "ev"; walk_at "side")
  | (apply de_mod; walk_at "ev"; walk_at "ev"; walk_at "side")
  | (apply de_fdiv; walk_at "ev"; walk_at "ev"; walk_at "side")
  | (apply de_ixT0; walk_at "ev"; rfl)
  | (apply de_ixL0; walk_at "ev"; rfl)
  | (apply de_cmp cmp_eq; walk_at "ev"; walk_at "ev") | (apply de_cmp cmp_ne; walk_at "ev"; walk_at "ev") | (apply de_cmp cmp_lt; walk_at "ev"; walk_at "ev")
  | (apply de_cmp cmp_le; walk_at "ev"; walk_at "ev") | (apply de_cmp cmp_gt; walk_at "ev"; walk_at "ev")
  | (apply de_chain cmp_le cmp_le (by with_unfolding_all rfl); walk_at "ev"; walk_at "ev"; walk_at "ev")
  | (apply de_one; walk_at "ev")
  | (apply de_and; walk_at "ev"; (intro _); walk_at "ev")
  | (apply de_or; walk_at "ev"; (intro _); walk_at "ev")
  | (apply de_not; walk_at "ev")
  | (apply de_tup; walk_at "evs"; exact len_ok rfl)
  | (apply de_lst; walk_at "evs"; exact len_ok rfl)
  | (walk_at "gf"; walk_at "evs"; walk_at "call"; rfl; rfl; rfl))
set_option hygiene false in
local macro_rules | `(tactic| walk_at "evs") => `(tactic| first | exact da_nil | (apply da_cons; walk_at "ev"; walk_at "evs"; rfl))
set_option hygiene false in
local macro_rules | `(tactic| walk_at "et") => `(tactic| first
  | (apply dt_cmp cmp_eq; walk_at "ev"; walk_at "ev") | (apply dt_cmp cmp_ne; walk_at "ev"; walk_at "ev") | (apply dt_cmp cmp_lt; walk_at "ev"; walk_at "ev")
  | (apply dt_cmp cmp_le; walk_at "ev"; walk_at "ev") | (apply dt_cmp cmp_gt; walk_at "ev"; walk_at "ev")
  | (apply dt_not; walk_at "et")
  | (apply dt_w; walk_at "ew")
  | (apply dt_val; walk_at "ev"; (intro _); rfl))
set_option hygiene false in
local macro_rules | `(tactic| walk_at "ew") => `(tactic| first
  | (apply dw_and1; walk_at "et") | (apply dw_or1; walk_at "et")
  | (apply dw_and; walk_at "et"; (intro _); walk_at "ew")
  | (apply dw_or; walk_at "et"; (intro _); walk_at "ew"))
local macro_rules | `(tactic| walk_at "call") => `(tactic| (constructor <;> walk_at "side"))
theorem dt_isT {X : Cx} {E : En} {a : Expr} {ds : List Dt} {pos p2 : Pos} {j} (h : DE X E a (.tup ds)) : DT X E (.Compare a [.Is] [.Constant .none j p2] pos) false := by
  obtain ⟨_, p, r⟩ := h
  refine ⟨_, pt_cmpR op_isN p pe_non (nomark _), fun Hf σ H s e Q q => r Hf σ H s e _ fun v Hf' H' f rv => ?_⟩
  cases rv
  exact ⟨rfl, false, by simp, q Hf' H' f⟩
theorem dt_notN {X : Cx} {E : En} {a : Expr} {pos p2 : Pos} {j} (h : DE X E a .non) : DT X E (.Compare a [.IsNot] [.Constant .none j p2] pos) false := by
  obtain ⟨_, p, r⟩ := h
  refine ⟨_, pt_cmpR op_notN p pe_non (nomark _), fun Hf σ H s e Q q => r Hf σ H s e _ fun v Hf' H' f rv => ?_⟩
  cases rv
  exact ⟨rfl, false, rfl, q Hf' H' f⟩
/-! ### data -/
def stp (x y : Int) : Int := if x % 2 = 0 ∧ y % 2 = 0 then (if x % 4 = 0 ∧ y % 4 = 0 then 4 else 2) else 1
theorem stp_3 (x y : Int) : stp x y = 1 ∨ stp x y = 2 ∨ stp x y = 4 := by
  unfold stp
  split
  · split <;> simp
  · simp
def dAround (x y : Int) : Dt := let z := stp x y
  if y / z % 2 = 0 then .tup [p2 (x - z) y (x + z) y, p2 x (y - z) x (y + z)]
  else if x / z % 2 = 0 then .tup [p2 x (y - z) x (y + z), p2 (x - z) y (x + z) y]
  else if (x - z) / (2 * z) % 2 = (y - z) / (2 * z) % 2 then .tup [p2 (x - z) (y - z) (x + z) (y + z), p2 (x - z) (y + z) (x + z) (y - z)]
  else .tup [p2 (x - z) (y + z) (x + z) (y - z), p2 (x - z) (y - z) (x + z) (y + z)]
abbrev Sd (s : Int) : Prop := s = 2 ∨ s = 4 ∨ s = 8
inductive RStep : List Dt → Dt → Prop
  | mk {w d s x y : Int} (h1 : Sm w) (h2 : Sm d) (h3 : Sd s) (h : inB w d s x y = true) (hc : onC s x y = false) : RStep [pl w d s, pt x y] (.int (stp x y))
inductive RAround : List Dt → Dt → Prop
  | mk {w d s x y : Int} (h1 : Sm w) (h2 : Sm d) (h3 : Sd s) (h : inB w d s x y = true) (hc : onC s x y = false) : RAround [pl w d s, pt x y] (dAround x y)
def dRoots (i j s : Int) : Dt := if (i + j) % 2 = 0 then .lst [tr (i * s) (j * s) (i * s + s) (j * s + s) (i * s + s) (j * s), tr (i * s + s) (j * s + s) (i * s) (j * s) (i * s) (j * s + s)]
  else .lst [tr (i * s + s) (j * s) (i * s) (j * s + s) (i * s + s) (j * s + s), tr (i * s) (j * s + s) (i * s + s) (j * s) (i * s) (j * s)]
inductive RRootsOf : List Dt → Dt → Prop
  | mk {i j s : Int} (h1 : Sm i) (h2 : Sm j) : RRootsOf [.int i, .int j, .int s] (dRoots i j s)
def dMid (a b c d : Int) : Dt := if (a + c) % 2 = 1 ∨ (b + d) % 2 = 1 then .non else pt ((a + c) / 2) ((b + d) / 2)
inductive RMid : List Dt → Dt → Prop
  | mk {a b c d e f : Int} : RMid [tr a b c d e f] (dMid a b c d)
inductive RMidT : List Dt → Dt → Prop
  | mk {a b c d e f : Int} (h : ¬ ((a + c) % 2 = 1 ∨ (b + d) % 2 = 1)) : RMidT [tr a b c d e f] (pt ((a + c) / 2) ((b + d) / 2))
inductive RHalved : List Dt → Dt → Prop
  | mk {a b c d e f : Int} (h : ¬ ((a + c) % 2 = 1 ∨ (b + d) % 2 = 1)) : RHalved [tr a b c d e f] (.lst [tr a b e f ((a + c) / 2) ((b + d) / 2), tr e f c d ((a + c) / 2) ((b + d) / 2)])
section
variable {P : Program} {w : World} {K : PySem.W.Frag} {mg : Str → Option Value} {base : Heap}
theorem scStep : FnScope ["plan", "at", "size"] ["plan", "at"] (defScope sStep) := ⟨rfl, rfl, rfl, by decide +kernel, rfl, by decide +kernel, by decide +kernel⟩
theorem ok_step {f : Addr} {fd : FuncData} (F : Fun K "step" "step" sStep f fd) (gC : Fn P w K mg base 3 "cut_only" 2 (spD 2 RCutOnly)) : FnOk P w K mg base CX0 4 f fd ["plan", "at"] (spD 2 RStep) := by
  refine fn_ok' F scStep (by decide) fun X b ds r hl hR => ?_
  cases hR with | @mk w d s x y h1 h2 h3 h hc => ?_
  have h3' : Sm s := by rcases h3 with e | e | e <;> (subst e; decide)
  have h0' : 0 < s := by rcases h3 with e | e | e <;> (subst e; decide)
  have nm0 := b.nm 0 "plan" rfl (.inl rfl) (by decide) (by decide)
  have nm1 := b.nm 1 "at" rfl (.inl rfl) (by decide) (by decide)
  have nm2 := b.nm 2 "size" rfl (.inl rfl) (by decide) (by decide)
  have ls2 := b.ls 2 "size" rfl (.inl rfl)
  have gf0 := b.gf gC (by decide) rfl (by decide)
  conv in defBody _ => whnf
  apply ss_cons
  · apply s1_expr
    · walk_at "ev"
    · rfl
  apply ss_cons
  · apply s1_st 2 ls2
    · walk_at "ev"
    · rfl
  have h8 : ¬ (x % 8 = 0 ∧ y % 8 = 0) := by
    intro ⟨a1, a2⟩
    have q : onC s x y = true := by
      unfold onC
      rcases h3 with e | e | e <;> (subst e; simp; omega)
    rw [hc] at q
    cases q
  apply ss_cons
  · refine s1_whileD (Eo := [some (pl w d s), some (pt x y), some (.int (stp x y))]) (fun m E => ∃ z : Int, E = [some (pl w d s), some (pt x y), some (.int z)] ∧ ((z = 1 ∧ m = 2) ∨ (z = 2 ∧ m = 1 ∧ x % 2 = 0 ∧ y % 2 = 0) ∨ (z = 4 ∧ m = 0 ∧ x % 4 = 0 ∧ y % 4 = 0))) b.own 2 ⟨1, rfl, .inl ⟨rfl, rfl⟩⟩ fun m E ⟨z, hE, hz⟩ => ?_
    subst hE
    rcases hz with ⟨rfl, rfl⟩ | ⟨rfl, rfl, e1, e2⟩ | ⟨rfl, rfl, e1, e2⟩
    · by_cases hh : x % 2 = 0 ∧ y % 2 = 0
      · refine .inl ⟨?_, 1, _, by decide, ⟨2, rfl, .inr (.inl ⟨rfl, rfl, hh.1, hh.2⟩)⟩, ?_⟩
        · apply DT.is
          · walk_at "et"
          · simp [hh]
        · apply ss_cons
          · refine s1_aug (C := CPow) (g := fun i j => i * 2 ^ j.toNat) 2 ls2 iop_shl rfl de_int ?_
            exact ⟨by decide, by decide, by decide⟩
          · exact ss_nil
      · refine .inr ⟨?_, by unfold stp; rw [if_neg hh]⟩
        apply DT.is
        · walk_at "et"
        · rw [← Bool.not_eq_true, Bool.and_eq_true, decide_eq_true_eq, decide_eq_true_eq]
          exact hh
    · by_cases hh : x % 4 = 0 ∧ y % 4 = 0
      · refine .inl ⟨?_, 0, _, by decide, ⟨4, rfl, .inr (.inr ⟨rfl, rfl, hh.1, hh.2⟩)⟩, ?_⟩
        · apply DT.is
          · walk_at "et"
          · simp [hh]
        · apply ss_cons
          · refine s1_aug (C := CPow) (g := fun i j => i * 2 ^ j.toNat) 2 ls2 iop_shl rfl de_int ?_
            exact ⟨by decide, by decide, by decide⟩
          · exact ss_nil
      · refine .inr ⟨?_, by unfold stp; rw [if_pos ⟨e1, e2⟩, if_neg hh]⟩
        apply DT.is
        · walk_at "et"
        · rw [← Bool.not_eq_true, Bool.and_eq_true, decide_eq_true_eq, decide_eq_true_eq]
          exact hh
    · refine .inr ⟨?_, by unfold stp; rw [if_pos (by omega), if_pos ⟨e1, e2⟩]⟩
      apply DT.is
      · walk_at "et"
      · rw [← Bool.not_eq_true, Bool.and_eq_true, decide_eq_true_eq, decide_eq_true_eq]
        exact h8
  exact ss_last (s1_ret (by walk_at "ev"))
theorem scAround : FnScope ["plan", "at", "size", "x", "y", "flat", "upright", "rising", "falling"] ["plan", "at"] (defScope sAround) := ⟨rfl, rfl, rfl, by decide +kernel, rfl, by decide +kernel, by decide +kernel⟩
theorem ok_around {f : Addr} {fd : FuncData} (F : Fun K "around" "around" sAround f fd) (gS : Fn P w K mg base 4 "step" 2 (spD 2 RStep)) : FnOk P w K mg base CX0 5 f fd ["plan", "at"] (spD 2 RAround) := by
  refine fn_ok' F scAround (by decide) fun X b ds r hl hR => ?_
  cases hR with | @mk w d s x y h1 h2 h3 h hc => ?_
  have nm0 := b.nm 0 "plan" rfl (.inl rfl) (by decide) (by decide)
  have nm1 := b.nm 1 "at" rfl (.inl rfl) (by decide) (by decide)
  have nm2 := b.nm 2 "size" rfl (.inl rfl) (by decide) (by decide)
  have nm3 := b.nm 3 "x" rfl (.inl rfl) (by decide) (by decide)
  have nm4 := b.nm 4 "y" rfl (.inl rfl) (by decide) (by decide)
  have nm5 := b.nm 5 "flat" rfl (.inl rfl) (by decide) (by decide)
  have nm6 := b.nm 6 "upright" rfl (.inl rfl) (by decide) (by decide)
  have nm7 := b.nm 7 "rising" rfl (.inl rfl) (by decide) (by decide)
  have nm8 := b.nm 8 "falling" rfl (.inl rfl) (by decide) (by decide)
  have ls2 := b.ls 2 "size" rfl (.inl rfl)
  have ls3 := b.ls 3 "x" rfl (.inl rfl)
  have ls4 := b.ls 4 "y" rfl (.inl rfl)
  have ls5 := b.ls 5 "flat" rfl (.inl rfl)
  have ls6 := b.ls 6 "upright" rfl (.inl rfl)
  have ls7 := b.ls 7 "rising" rfl (.inl rfl)
  have ls8 := b.ls 8 "falling" rfl (.inl rfl)
  have gf0 := b.gf gS (by decide) rfl (by decide)
  conv in defBody _ => whnf
  apply ss_cons
  · apply s1_st 2 ls2
    · walk_at "ev"
    · rfl
  have hz := stp_3 x y
  apply ss_cons
  · apply s1_unpack (is := [3, 4]) b.calm ls3.nd
    · walk_at "ev"
    · exact ⟨ls3.n, ls3.l, ls3.f, fun _ => rfl, ls4.n, ls4.l, ls4.f, fun _ => rfl, trivial⟩
    all_goals rfl
  apply ss_cons
  · apply s1_st 5 ls5
    · walk_at "ev"
    · rfl
  apply ss_cons
  · apply s1_st 6 ls6
    · walk_at "ev"
    · rfl
  unfold dAround
  generalize stp x y = z at hz ⊢
  have z0 : 0 < z := by omega
  apply ss_ifR
  · walk_at "et"
  · intro k
    simp only [decide_eq_true_eq] at k
    simp only [if_pos k]
    exact ss_last (s1_ret (by walk_at "ev"))
  intro k
  simp only [decide_eq_false_iff_not] at k
  simp only [if_neg k]
  apply ss_ifR
  · walk_at "et"
  · intro k
    simp only [decide_eq_true_eq] at k
    simp only [if_pos k]
    exact ss_last (s1_ret (by walk_at "ev"))
  intro k
  simp only [decide_eq_false_iff_not] at k
  simp only [if_neg k]
  apply ss_cons
  · apply s1_st 7 ls7
    · walk_at "ev"
    · rfl
  apply ss_cons
  · apply s1_st 8 ls8
    · walk_at "ev"
    · rfl
  apply ss_ifR
  · walk_at "et"
  · intro k
    simp only [decide_eq_true_eq] at k
    simp only [if_pos k]
    exact ss_last (s1_ret (by walk_at "ev"))
  intro k
  simp only [decide_eq_false_iff_not] at k
  simp only [if_neg k]
  exact ss_last (s1_ret (by walk_at "ev"))
theorem scRootsOf : FnScope ["i", "j", "side", "x", "y"] ["i", "j", "side"] (defScope sRootsOf) := ⟨rfl, rfl, rfl, by decide +kernel, rfl, by decide +kernel, by decide +kernel⟩
theorem ok_rootsOf {f : Addr} {fd : FuncData} (F : Fun K "roots_of" "roots_of" sRootsOf f fd) : FnOk P w K mg base CX0 1 f fd ["i", "j", "side"] (spD 3 RRootsOf) := by
  refine fn_ok' F scRootsOf (by decide) fun X b ds r hl hR => ?_
  cases hR with | @mk i j s h1 h2 => ?_
  have nm0 := b.nm 0 "i" rfl (.inl rfl) (by decide) (by decide)
  have nm1 := b.nm 1 "j" rfl (.inl rfl) (by decide) (by decide)
  have nm2 := b.nm 2 "side" rfl (.inl rfl) (by decide) (by decide)
  have nm3 := b.nm 3 "x" rfl (.inl rfl) (by decide) (by decide)
  have nm4 := b.nm 4 "y" rfl (.inl rfl) (by decide) (by decide)
  have ls3 := b.ls 3 "x" rfl (.inl rfl)
  have ls4 := b.ls 4 "y" rfl (.inl rfl)
  conv in defBody _ => whnf
  apply ss_cons
  · apply s1_par 3 4 b.calm ls3.nd ls3.n ls4.n (by decide) (by rw [b.sc]; rfl) (by rw [b.sc]; rfl)
    · walk_at "evs"
    · obtain ⟨_, _, _, _, _, _, _, _, rfl⟩ := b.eq
      rfl
    · rfl
  unfold dRoots
  apply ss_ifR
  · walk_at "et"
  · intro k
    simp only [decide_eq_true_eq] at k
    simp only [if_pos k]
    exact ss_last (s1_ret (by walk_at "ev"))
  intro k
  simp only [decide_eq_false_iff_not] at k
  simp only [if_neg k]
  exact ss_last (s1_ret (by walk_at "ev"))
theorem scMiddle : FnScope ["shape", "over", "along"] ["shape"] (defScope sMiddle) := ⟨rfl, rfl, rfl, by decide +kernel, rfl, by decide +kernel, by decide +kernel⟩
theorem ok_middle {f : Addr} {fd : FuncData} (F : Fun K "middle" "middle" sMiddle f fd) : FnOk P w K mg base CX0 1 f fd ["shape"] (spD 1 RMid) := by
  refine fn_ok' F scMiddle (by decide) fun X b ds r hl hR => ?_
  cases hR with | @mk a1 b1 c1 d1 e1 f1 => ?_
  have nm0 := b.nm 0 "shape" rfl (.inl rfl) (by decide) (by decide)
  have nm1 := b.nm 1 "over" rfl (.inl rfl) (by decide) (by decide)
  have nm2 := b.nm 2 "along" rfl (.inl rfl) (by decide) (by decide)
  have ls1 := b.ls 1 "over" rfl (.inl rfl)
  have ls2 := b.ls 2 "along" rfl (.inl rfl)
  conv in defBody _ => whnf
  apply ss_cons
  · apply s1_par 1 2 b.calm ls1.nd ls1.n ls2.n (by decide) (by rw [b.sc]; rfl) (by rw [b.sc]; rfl)
    · walk_at "evs"
    · obtain ⟨_, _, _, _, _, _, _, _, rfl⟩ := b.eq
      rfl
    · rfl
  unfold dMid
  apply ss_ifR
  · walk_at "et"
  · intro k
    rw [Bool.or_eq_true, decide_eq_true_eq, decide_eq_true_eq] at k
    rw [if_pos k]
    exact ss_last (s1_ret de_non)
  intro k
  rw [← Bool.not_eq_true, Bool.or_eq_true, decide_eq_true_eq, decide_eq_true_eq] at k
  rw [if_neg k]
  exact ss_last (s1_ret (by walk_at "ev"))
theorem middle_T {gM : Fn P w K mg base 1 "middle" 1 (spD 1 RMid)} : Fn P w K mg base 1 "middle" 1 (spD 1 RMidT) := by
  obtain ⟨f, fd, ps, G, r⟩ := gM.ok
  refine ⟨f, fd, ps, G.imp fun vs H Q E h => ?_, r⟩
  obtain ⟨Hf, ds, d, h1, h2, h3, h4, h5⟩ := h
  refine ⟨Hf, ds, d, h1, h2, h3, ?_, h5⟩
  cases h4 with
  | @mk a b c d e f h =>
    have q : RMid [tr a b c d e f] (dMid a b c d) := RMid.mk
    unfold dMid at q
    rw [if_neg h] at q
    exact q
theorem scHalved : FnScope ["shape", "at", "ax", "ay", "bx", "by", "cx", "cy"] ["shape"] (defScope sHalved) := ⟨rfl, rfl, rfl, by decide +kernel, rfl, by decide +kernel, by decide +kernel⟩
theorem ok_halved {f : Addr} {fd : FuncData} (F : Fun K "halved" "halved" sHalved f fd) (gM : Fn P w K mg base 1 "middle" 1 (spD 1 RMidT)) : FnOk P w K mg base CX0 2 f fd ["shape"] (spD 1 RHalved) := by
  refine fn_ok' F scHalved (by decide) fun X b ds r hl hR => ?_
  cases hR with | @mk a1 b1 c1 d1 e1 f1 h => ?_
  have nm0 := b.nm 0 "shape" rfl (.inl rfl) (by decide) (by decide)
  have nm1 := b.nm 1 "at" rfl (.inl rfl) (by decide) (by decide)
  have nm2 := b.nm 2 "ax" rfl (.inl rfl) (by decide) (by decide)
  have nm3 := b.nm 3 "ay" rfl (.inl rfl) (by decide) (by decide)
  have nm4 := b.nm 4 "bx" rfl (.inl rfl) (by decide) (by decide)
  have nm5 := b.nm 5 "by" rfl (.inl rfl) (by decide) (by decide)
  have nm6 := b.nm 6 "cx" rfl (.inl rfl) (by decide) (by decide)
  have nm7 := b.nm 7 "cy" rfl (.inl rfl) (by decide) (by decide)
  have ls1 := b.ls 1 "at" rfl (.inl rfl)
  have ls2 := b.ls 2 "ax" rfl (.inl rfl)
  have ls3 := b.ls 3 "ay" rfl (.inl rfl)
  have ls4 := b.ls 4 "bx" rfl (.inl rfl)
  have ls5 := b.ls 5 "by" rfl (.inl rfl)
  have ls6 := b.ls 6 "cx" rfl (.inl rfl)
  have ls7 := b.ls 7 "cy" rfl (.inl rfl)
  have gf0 := b.gf gM (by decide) rfl (by decide)
  conv in defBody _ => whnf
  apply ss_cons
  · apply s1_st 1 ls1
    · walk_at "ev"
    · rfl
  apply ss_cons
  · apply s1_ifF
    · apply dt_isT
      walk_at "ev"
    · exact ss_nil
  apply ss_cons
  · apply s1_unpack (is := [2, 3, 4, 5, 6, 7]) b.calm ls2.nd
    · walk_at "ev"
    · exact ⟨ls2.n, ls2.l, ls2.f, fun _ => rfl, ls3.n, ls3.l, ls3.f, fun _ => rfl, ls4.n, ls4.l, ls4.f, fun _ => rfl, ls5.n, ls5.l, ls5.f, fun _ => rfl, ls6.n, ls6.l, ls6.f, fun _ => rfl, ls7.n, ls7.l, ls7.f, fun _ => rfl, trivial⟩
    all_goals rfl
  exact ss_last (s1_ret (by walk_at "ev"))
end
end Br

-- BrC
namespace Br
open PySem L2 PySem.Spec PyProof.Rows
local macro_rules | `(tactic| walk_at "side") => `(tactic| first | assumption | omega | decide | (left; constructor <;> omega) | (right; constructor <;> omega) | (constructor <;> omega))
set_option hygiene false in
local macro_rules | `(tactic| walk_at "nm") => `(tactic| first
  | ((with_reducible apply de_at 0 nm0); rfl) | ((with_reducible apply de_at 1 nm1); rfl) | ((with_reducible apply de_at 2 nm2); rfl) | ((with_reducible apply de_at 3 nm3); rfl)
  | ((with_reducible apply de_at 4 nm4); rfl) | ((with_reducible apply de_at 5 nm5); rfl) | ((with_reducible apply de_at 6 nm6); rfl) | ((with_reducible apply de_at 7 nm7); rfl) | ((with_reducible apply de_at 8 nm8); rfl))
set_option hygiene false in
local macro_rules | `(tactic| walk_at "gf") => `(tactic| first | (with_reducible apply de_gf gf0) | (with_reducible apply de_gf gf1) | (with_reducible apply de_gf gf2) | (with_reducible apply de_gf gf3))
set_option hygiene false in
local macro_rules | `(tactic| walk_at "ev") => `(tactic| first
  | walk_at "nm" | exact de_int | exact de_bool | exact de_non
  | (apply de_add; walk_at "ev"; walk_at "ev") | (apply de_sub; walk_at "ev"; walk_at "ev")
  | (apply de_mul; walk_at "ev"; walk_at "ev"; walk_at "side")
  | (apply de_mod; walk_at "ev"; walk_at "ev"; walk_at "side")
  | (apply de_fdiv; walk_at "ev"; walk_at "ev"; walk_at "side")
  | (apply de_ixT0; walk_at "ev"; rfl)
  | (apply de_ixL0; walk_at "ev"; rfl)
  | (apply de_cmp cmp_eq; walk_at "ev"; walk_at "ev") | (apply de_cmp cmp_ne; walk_at "ev"; walk_at "ev") | (apply de_cmp cmp_lt; walk_at "ev"; walk_at "ev")
  | (apply de_cmp cmp_le; walk_at "ev"; walk_at "ev") | (apply de_cmp cmp_gt; walk_at "ev"; walk_at "ev")
  | (apply de_chain cmp_le cmp_le (by with_unfolding_all rfl); walk_at "ev"; walk_at "ev"; walk_at "ev")
  | (apply de_one; walk_at "ev")
  | (apply de_and; walk_at "ev"; (intro _); walk_at "ev")
  | (apply de_or; walk_at "ev"; (intro _); walk_at "ev")
  | (apply de_not; walk_at "ev")
  | (apply de_tup; walk_at "evs"; exact len_ok rfl)
  | (apply de_lst; walk_at "evs"; exact len_ok rfl)
  | (walk_at "gf"; walk_at "evs"; walk_at "call"; rfl; rfl; rfl))
set_option hygiene false in
local macro_rules | `(tactic| walk_at "evs") => `(tactic| first | exact da_nil | (apply da_cons; walk_at "ev"; walk_at "evs"; rfl))
set_option hygiene false in
local macro_rules | `(tactic| walk_at "et") => `(tactic| first
  | (apply dt_cmp cmp_eq; walk_at "ev"; walk_at "ev") | (apply dt_cmp cmp_ne; walk_at "ev"; walk_at "ev") | (apply dt_cmp cmp_lt; walk_at "ev"; walk_at "ev")
  | (apply dt_cmp cmp_le; walk_at "ev"; walk_at "ev") | (apply dt_cmp cmp_gt; walk_at "ev"; walk_at "ev")
  | (apply dt_not; walk_at "et")
  | (apply dt_w; walk_at "ew")
  | (apply dt_val; walk_at "ev"; (intro _); rfl))
set_option hygiene false in
local macro_rules | `(tactic| walk_at "ew") => `(tactic| first
  | (apply dw_and1; walk_at "et") | (apply dw_or1; walk_at "et")
  | (apply dw_and; walk_at "et"; (intro _); walk_at "ew")
  | (apply dw_or; walk_at "et"; (intro _); walk_at "ew"))
local macro_rules | `(tactic| walk_at "call") => `(tactic| (constructor <;> walk_at "side"))
abbrev ptsD (ps : List (Int × Int)) : List Dt := ps.map fun q => pt q.1 q.2
def ptF (h : Int → Int → Bool) : Dt → Bool
  | .tup [.int a, .int b] => h a b
  | _ => false
theorem ptF_pts (h : Int → Int → Bool) : ∀ ps : List (Int × Int), ((ptsD ps).filter (ptF h)).map id = ptsD (ps.filter fun q => h q.1 q.2)
  | [] => rfl
  | q :: ps => by
    have ih := ptF_pts h ps
    rw [List.map_id] at ih ⊢
    show List.filter (ptF h) (pt q.1 q.2 :: ptsD ps) = _
    rw [List.filter_cons, List.filter_cons]
    show (if h q.1 q.2 = true then _ else _) = _
    split
    · rw [ih]
      rfl
    · exact ih
def facing (x y : Int) : List (Int × Int) := let z := stp x y
  if y / z % 2 = 0 then [(x, y - z), (x, y + z)]
  else if x / z % 2 = 0 then [(x - z, y), (x + z, y)]
  else if (x - z) / (2 * z) % 2 = (y - z) / (2 * z) % 2 then [(x - z, y + z), (x + z, y - z)]
  else [(x - z, y - z), (x + z, y + z)]
theorem dAround_facing (x y : Int) : ∃ e, dAround x y = .tup [e, .tup (ptsD (facing x y))] := by
  unfold dAround facing
  dsimp only
  split
  · exact ⟨_, rfl⟩
  · split
    · exact ⟨_, rfl⟩
    · split <;> exact ⟨_, rfl⟩
theorem facing_len (x y : Int) : (facing x y).length = 2 := by
  unfold facing
  dsimp only
  split
  · rfl
  · split
    · rfl
    · split <;> rfl
def okCut (w d s : Int) (q : Int × Int) : Bool := inB w d s q.1 q.2 && !onC s q.1 q.2
def parsE (w d s x y : Int) : List (Int × Int) := (facing x y).filter (okCut w d s)
inductive RPars : List Dt → Dt → Prop
  | mk {w d s x y : Int} (h1 : Sm w) (h2 : Sm d) (h3 : Sd s) (h : inB w d s x y = true) (hc : onC s x y = false) : RPars [pl w d s, pt x y] (.lst (ptsD (parsE w d s x y)))
section
variable {P : Program} {w : World} {K : PySem.W.Frag} {mg : Str → Option Value} {base : Heap}
theorem scParents : FnScope ["plan", "at", "up"] ["plan", "at"] (defScope sParents) := ⟨rfl, rfl, rfl, by decide +kernel, rfl, by decide +kernel, by decide +kernel⟩
theorem ok_parents {f : Addr} {fd : FuncData} (F : Fun K "parents" "parents" sParents f fd) (gA : Fn P w K mg base 5 "around" 2 (spD 2 RAround)) (gL : Fn P w K mg base 1 "lies_in" 2 (spD 2 RLies)) (gC : Fn P w K mg base 1 "on_corner" 2 (spD 2 ROnC)) : FnOk P w K mg base CX0 6 f fd ["plan", "at"] (spD 2 RPars) := by
  refine fn_ok' F scParents (by decide) fun X b ds r hl hR => ?_
  cases hR with | @mk w d s x y h1 h2 h3 h hc => ?_
  have h3' : Sm s := by rcases h3 with e | e | e <;> (subst e; decide)
  have h0' : 0 < s := by rcases h3 with e | e | e <;> (subst e; decide)
  have nm0 := b.nm 0 "plan" rfl (.inr (.inl rfl)) (by decide) (by decide)
  have nm1 := b.nm 1 "at" rfl (.inl rfl) (by decide) (by decide)
  have gf0 := b.gf gA (by decide) rfl (by decide)
  conv in defBody _ => whnf
  obtain ⟨e1, he⟩ := dAround_facing x y
  apply ss_last
  apply s1_ret
  apply DE.is
  · apply de_lcT (f := ptF fun a b => inB w d s a b && !onC s a b) (g := id) b.calm (by rw [b.n_]; exact b.nd) (blkOk_by (by rw [b.n_, b.sc]; decide +kernel)) (blk_pg (i := 2) (by rw [b.n_]; exact b.nd) (by rw [b.n_]; rfl) rfl (by rw [b.sc]; exact .inl rfl) (by rw [b.sc]; rfl)) (by decide) (fun _ => rfl)
    · apply de_ixT0 (n := 1) (ds := [e1, .tup (ptsD (facing x y))])
      · rw [← he]
        walk_at "ev"
      · rfl
    · show (ptsD (facing x y)).length < sizeLine
      rw [List.length_map, facing_len]
      decide
    intro q hq
    obtain ⟨⟨a, c⟩, _, rfl⟩ := List.mem_map.mp hq
    refine ⟨.one fun cx cb => ?_, fun _ cx cb => ?_⟩
    · skip
      have nm0 := cb.nm 0 "plan" (by rw [b.n_]; rfl) (by rw [b.sc]; exact .inr (.inl rfl)) (by decide) (by decide)
      have nm2 := cb.nm 2 "up" (by rw [b.n_]; rfl) (by rw [b.sc]; exact .inl rfl) (by decide) (by decide)
      have gf0 := cb.gfn b gL (by decide) rfl (by decide)
      have gf1 := cb.gfn b gC (by decide) rfl (by decide)
      apply DT.is
      · walk_at "et"
      · rfl
    · skip
      have nm0 := cb.nm 0 "plan" (by rw [b.n_]; rfl) (by rw [b.sc]; exact .inr (.inl rfl)) (by decide) (by decide)
      have nm2 := cb.nm 2 "up" (by rw [b.n_]; rfl) (by rw [b.sc]; exact .inl rfl) (by decide) (by decide)
      have gf0 := cb.gfn b gL (by decide) rfl (by decide)
      have gf1 := cb.gfn b gC (by decide) rfl (by decide)
      walk_at "ev"
  · exact congrArg Dt.lst (ptF_pts _ _)
end
end Br

-- BrD
namespace Br
open PySem L2 PySem.Spec PyProof.Rows
local macro_rules | `(tactic| walk_at "side") => `(tactic| first | assumption | omega | decide | (left; constructor <;> omega) | (right; constructor <;> omega) | (constructor <;> omega))
set_option hygiene false in
local macro_rules | `(tactic| walk_at "nm") => `(tactic| first
  | ((with_reducible apply de_at 0 nm0); rfl)
  | ((with_reducible apply de_at 1 nm1); rfl)
  | ((with_reducible apply de_at 2 nm2); rfl)
  | ((with_reducible apply de_at 3 nm3); rfl)
  | ((with_reducible apply de_at 4 nm4); rfl)
  | ((with_reducible apply de_at 5 nm5); rfl)
  | ((with_reducible apply de_at 6 nm6); rfl)
  | ((with_reducible apply de_at 7 nm7); rfl)
  | ((with_reducible apply de_at 8 nm8); rfl)
  | ((with_reducible apply de_at 9 nm9); rfl)
  | ((with_reducible apply de_at 10 nm10); rfl)
  | ((with_reducible apply de_at 11 nm11); rfl)
  | ((with_reducible apply de_at 12 nm12); rfl)
  | ((with_reducible apply de_at 13 nm13); rfl)
  | ((with_reducible apply de_at 14 nm14); rfl)
  | ((with_reducible apply de_at 15 nm15); rfl))
set_option hygiene false in
local macro_rules | `(tactic| walk_at "gf") => `(tactic| first | (with_reducible apply de_gf gf0) | (with_reducible apply de_gf gf1) | (with_reducible apply de_gf gf2) | (with_reducible apply de_gf gf3) | (with_reducible apply de_gf gf4) | (with_reducible apply de_gf gf5))
set_option hygiene false in
local macro_rules | `(tactic| walk_at "ev") => `(tactic| first
  | walk_at "nm" | exact de_int | exact de_bool | exact de_non
  | (apply de_add; walk_at "ev"; walk_at "ev") | (apply de_sub; walk_at "ev"; walk_at "ev")
  | (apply de_mul; walk_at "ev"; walk_at "ev"; walk_at "side")
  | (apply de_mod; walk_at "ev"; walk_at "ev"; walk_at "side")
  | (apply de_fdiv; walk_at "ev"; walk_at "ev"; walk_at "side")
  | (apply de_ixT0; walk_at "ev"; rfl)
  | (apply de_ixL0; walk_at "ev"; rfl)
  | (apply de_cmp cmp_eq; walk_at "ev"; walk_at "ev") | (apply de_cmp cmp_ne; walk_at "ev"; walk_at "ev") | (apply de_cmp cmp_lt; walk_at "ev"; walk_at "ev")
  | (apply de_cmp cmp_le; walk_at "ev"; walk_at "ev") | (apply de_cmp cmp_gt; walk_at "ev"; walk_at "ev")
  | (apply de_chain cmp_le cmp_le (by with_unfolding_all rfl); walk_at "ev"; walk_at "ev"; walk_at "ev")
  | (apply de_one; walk_at "ev")
  | (apply de_and; walk_at "ev"; (intro _); walk_at "ev")
  | (apply de_or; walk_at "ev"; (intro _); walk_at "ev")
  | (apply de_not; walk_at "ev")
  | (apply de_tup; walk_at "evs"; exact len_ok rfl)
  | (apply de_lst; walk_at "evs"; exact len_ok rfl)
  | (walk_at "gf"; walk_at "evs"; walk_at "call"; rfl; rfl; rfl))
set_option hygiene false in
local macro_rules | `(tactic| walk_at "evs") => `(tactic| first | exact da_nil | (apply da_cons; walk_at "ev"; walk_at "evs"; rfl))
set_option hygiene false in
local macro_rules | `(tactic| walk_at "et") => `(tactic| first
  | (apply dt_cmp cmp_eq; walk_at "ev"; walk_at "ev") | (apply dt_cmp cmp_ne; walk_at "ev"; walk_at "ev") | (apply dt_cmp cmp_lt; walk_at "ev"; walk_at "ev")
  | (apply dt_cmp cmp_le; walk_at "ev"; walk_at "ev") | (apply dt_cmp cmp_gt; walk_at "ev"; walk_at "ev")
  | (apply dt_not; walk_at "et")
  | (apply dt_w; walk_at "ew")
  | (apply dt_val; walk_at "ev"; (intro _); rfl))
set_option hygiene false in
local macro_rules | `(tactic| walk_at "ew") => `(tactic| first
  | (apply dw_and1; walk_at "et") | (apply dw_or1; walk_at "et")
  | (apply dw_and; walk_at "et"; (intro _); walk_at "ew")
  | (apply dw_or; walk_at "et"; (intro _); walk_at "ew"))
local macro_rules | `(tactic| walk_at "call") => `(tactic| (constructor <;> walk_at "side"))
/-! ### data -/
inductive RStepL : List Dt → Dt → Prop
  | mk {x y : Int} : RStepL [pt x y] (.int (stp x y))
def ctr (x y : Int) : Bool := decide (x / stp x y % 2 = 1) && decide (y / stp x y % 2 = 1)
inductive RCentre : List Dt → Dt → Prop
  | mk {x y : Int} : RCentre [pt x y] (.bool (ctr x y))
abbrev l2 (a b c d : Int) : Dt := .lst [pt a b, pt c d]
def dAroundL (x y : Int) : Dt := let z := stp x y
  if ctr x y = true then (if (x - z + y - z) / (2 * z) % 2 = 0 then .lst [l2 (x - z) (y - z) (x + z) (y + z), l2 (x - z) (y + z) (x + z) (y - z)] else .lst [l2 (x - z) (y + z) (x + z) (y - z), l2 (x - z) (y - z) (x + z) (y + z)])
  else if x / z % 2 = 1 then .lst [l2 (x - z) y (x + z) y, l2 x (y - z) x (y + z)]
  else .lst [l2 x (y - z) x (y + z), l2 (x - z) y (x + z) y]
def facingL (x y : Int) : List (Int × Int) := let z := stp x y
  if ctr x y = true then (if (x - z + y - z) / (2 * z) % 2 = 0 then [(x - z, y + z), (x + z, y - z)] else [(x - z, y - z), (x + z, y + z)])
  else if x / z % 2 = 1 then [(x, y - z), (x, y + z)]
  else [(x - z, y), (x + z, y)]
theorem dAroundL_facing (x y : Int) : ∃ e, dAroundL x y = .lst [e, .lst (ptsD (facingL x y))] := by
  unfold dAroundL facingL
  dsimp only
  split
  · split <;> exact ⟨_, rfl⟩
  · split <;> exact ⟨_, rfl⟩
theorem facingL_len (x y : Int) : (facingL x y).length = 2 := by
  unfold facingL
  dsimp only
  split
  · split <;> rfl
  · split <;> rfl
inductive RAroundL : List Dt → Dt → Prop
  | mk {x y : Int} : RAroundL [pt x y] (dAroundL x y)
def upsL (w d s x y : Int) : List (Int × Int) := (facingL x y).filter (okCut w d s)
inductive RUps : List Dt → Dt → Prop
  | mk {w d s x y : Int} (h1 : Sm w) (h2 : Sm d) (h3 : Sm s) (h0 : 0 < s) : RUps [pl w d s, pt x y] (.lst (ptsD (upsL w d s x y)))
inductive RCorners : List Dt → Dt → Prop
  | mk {a b c d e f : Int} : RCorners [tr a b c d e f] (.lst [pt a b, pt c d, pt e f])
def crs (a b c d e f : Int) : Int := (c - a) * (f - b) - (e - a) * (d - b)
inductive RCross : List Dt → Dt → Prop
  | mk {a b c d e f : Int} (h1 : Sm a) (h2 : Sm b) (h3 : Sm c) (h4 : Sm d) (h5 : Sm e) (h6 : Sm f) : RCross [pt a b, pt c d, pt e f] (.int (crs a b c d e f))
def sgn (a b c d e f : Int) : Int := if crs a b c d e f < 0 then 0 - 1 else 1
def wts (a b c d e f x y k : Int) : List Int := [sgn (a * k) (b * k) (c * k) (d * k) (e * k) (f * k) * crs x y (c * k) (d * k) (e * k) (f * k), sgn (a * k) (b * k) (c * k) (d * k) (e * k) (f * k) * crs (a * k) (b * k) x y (e * k) (f * k),
  sgn (a * k) (b * k) (c * k) (d * k) (e * k) (f * k) * crs (a * k) (b * k) (c * k) (d * k) x y]
inductive RWeigh : List Dt → Dt → Prop
  | mk {a b c d e f x y : Int} (h1 : 0 ≤ a ∧ a ≤ 8) (h2 : 0 ≤ b ∧ b ≤ 8) (h3 : 0 ≤ c ∧ c ≤ 8) (h4 : 0 ≤ d ∧ d ≤ 8) (h5 : 0 ≤ e ∧ e ≤ 8) (h6 : 0 ≤ f ∧ f ≤ 8) (hx : Sm x) (hy : Sm y) : RWeigh [tr a b c d e f, .int x, .int y, .int 4] (.lst ((wts a b c d e f x y 4).map Dt.int))
section
variable {P : Program} {w : World} {K : PySem.W.Frag} {mg : Str → Option Value} {base : Heap}
theorem sc_ok_corner : FnScope ["_law_plan_here", "_law_at"] ["_law_plan_here", "_law_at"] (defScope sCorner) := ⟨rfl, rfl, rfl, by decide +kernel, rfl, by decide +kernel, by decide +kernel⟩
theorem ok_corner {f : Addr} {fd : FuncData} (F : Fun K "_law_corner" "_law_corner" sCorner f fd) : FnOk P w K mg base CX0 1 f fd ["_law_plan_here", "_law_at"] (spD 2 ROnC) := by
  refine fn_ok' F sc_ok_corner (by decide) fun X b ds r hl hR => ?_
  cases hR with | @mk w d s x y h3 => ?_
  have nm0 := b.nm 0 "_law_plan_here" rfl (.inl rfl) (by decide) (by decide)
  have nm1 := b.nm 1 "_law_at" rfl (.inl rfl) (by decide) (by decide)
  conv in defBody _ => whnf
  exact ss_last (s1_ret (by walk_at "ev"))
theorem sc_ok_in : FnScope ["_law_plan_here", "_law_at"] ["_law_plan_here", "_law_at"] (defScope sIn) := ⟨rfl, rfl, rfl, by decide +kernel, rfl, by decide +kernel, by decide +kernel⟩
theorem ok_in {f : Addr} {fd : FuncData} (F : Fun K "_law_in" "_law_in" sIn f fd) : FnOk P w K mg base CX0 1 f fd ["_law_plan_here", "_law_at"] (spD 2 RLies) := by
  refine fn_ok' F sc_ok_in (by decide) fun X b ds r hl hR => ?_
  cases hR with | @mk w d s x y h1 h2 h3 => ?_
  have nm0 := b.nm 0 "_law_plan_here" rfl (.inl rfl) (by decide) (by decide)
  have nm1 := b.nm 1 "_law_at" rfl (.inl rfl) (by decide) (by decide)
  conv in defBody _ => whnf
  exact ss_last (s1_ret (by walk_at "ev"))
theorem sc_ok_stepL : FnScope ["_law_at"] ["_law_at"] (defScope sStepL) := ⟨rfl, rfl, rfl, by decide +kernel, rfl, by decide +kernel, by decide +kernel⟩
theorem ok_stepL {f : Addr} {fd : FuncData} (F : Fun K "_law_step" "_law_step" sStepL f fd) : FnOk P w K mg base CX0 1 f fd ["_law_at"] (spD 1 RStepL) := by
  refine fn_ok' F sc_ok_stepL (by decide) fun X b ds r hl hR => ?_
  cases hR with | @mk x y => ?_
  have nm0 := b.nm 0 "_law_at" rfl (.inl rfl) (by decide) (by decide)
  conv in defBody _ => whnf
  apply ss_ifR
  · walk_at "et"
  · intro k
    simp only [decide_eq_true_eq, Bool.and_eq_true] at k
    have e : stp x y = 4 := by
      unfold stp
      rw [if_pos (by omega), if_pos k]
    rw [e]
    exact ss_last (s1_ret de_int)
  intro k
  rw [← Bool.not_eq_true] at k
  simp only [decide_eq_true_eq, Bool.and_eq_true] at k
  apply ss_ifR
  · walk_at "et"
  · intro k2
    simp only [decide_eq_true_eq, Bool.and_eq_true] at k2
    have e : stp x y = 2 := by
      unfold stp
      rw [if_pos k2, if_neg k]
    rw [e]
    exact ss_last (s1_ret de_int)
  intro k2
  rw [← Bool.not_eq_true] at k2
  simp only [decide_eq_true_eq, Bool.and_eq_true] at k2
  have e : stp x y = 1 := by
    unfold stp
    rw [if_neg k2]
  rw [e]
  exact ss_last (s1_ret de_int)
theorem sc_ok_centre : FnScope ["_law_at", "_law_size"] ["_law_at"] (defScope sCentre) := ⟨rfl, rfl, rfl, by decide +kernel, rfl, by decide +kernel, by decide +kernel⟩
theorem ok_centre {f : Addr} {fd : FuncData} (F : Fun K "_law_centre" "_law_centre" sCentre f fd) (gS : Fn P w K mg base 1 "_law_step" 1 (spD 1 RStepL)) : FnOk P w K mg base CX0 2 f fd ["_law_at"] (spD 1 RCentre) := by
  refine fn_ok' F sc_ok_centre (by decide) fun X b ds r hl hR => ?_
  cases hR with | @mk x y => ?_
  have nm0 := b.nm 0 "_law_at" rfl (.inl rfl) (by decide) (by decide)
  have nm1 := b.nm 1 "_law_size" rfl (.inl rfl) (by decide) (by decide)
  have ls1 := b.ls 1 "_law_size" rfl (.inl rfl)
  have gf0 := b.gf gS (by decide) rfl (by decide)
  conv in defBody _ => whnf
  apply ss_cons
  · apply s1_st 1 ls1
    · walk_at "ev"
    · rfl
  have hz := stp_3 x y
  unfold ctr
  generalize stp x y = z at hz ⊢
  have z0 : 0 < z := by omega
  exact ss_last (s1_ret (by walk_at "ev"))
theorem sc_ok_aroundL : FnScope ["_law_at", "_law_size", "_law_x", "_law_y", "_law_flat", "_law_tall", "_law_rising", "_law_falling"] ["_law_at"] (defScope sAroundL) := ⟨rfl, rfl, rfl, by decide +kernel, rfl, by decide +kernel, by decide +kernel⟩
theorem ok_aroundL {f : Addr} {fd : FuncData} (F : Fun K "_law_around" "_law_around" sAroundL f fd) (gS : Fn P w K mg base 1 "_law_step" 1 (spD 1 RStepL)) (gC : Fn P w K mg base 2 "_law_centre" 1 (spD 1 RCentre)) : FnOk P w K mg base CX0 3 f fd ["_law_at"] (spD 1 RAroundL) := by
  refine fn_ok' F sc_ok_aroundL (by decide) fun X b ds r hl hR => ?_
  cases hR with | @mk x y => ?_
  have nm0 := b.nm 0 "_law_at" rfl (.inl rfl) (by decide) (by decide)
  have nm1 := b.nm 1 "_law_size" rfl (.inl rfl) (by decide) (by decide)
  have nm2 := b.nm 2 "_law_x" rfl (.inl rfl) (by decide) (by decide)
  have nm3 := b.nm 3 "_law_y" rfl (.inl rfl) (by decide) (by decide)
  have nm4 := b.nm 4 "_law_flat" rfl (.inl rfl) (by decide) (by decide)
  have nm5 := b.nm 5 "_law_tall" rfl (.inl rfl) (by decide) (by decide)
  have nm6 := b.nm 6 "_law_rising" rfl (.inl rfl) (by decide) (by decide)
  have nm7 := b.nm 7 "_law_falling" rfl (.inl rfl) (by decide) (by decide)
  have ls1 := b.ls 1 "_law_size" rfl (.inl rfl)
  have ls2 := b.ls 2 "_law_x" rfl (.inl rfl)
  have ls3 := b.ls 3 "_law_y" rfl (.inl rfl)
  have ls4 := b.ls 4 "_law_flat" rfl (.inl rfl)
  have ls5 := b.ls 5 "_law_tall" rfl (.inl rfl)
  have ls6 := b.ls 6 "_law_rising" rfl (.inl rfl)
  have ls7 := b.ls 7 "_law_falling" rfl (.inl rfl)
  have gf0 := b.gf gS (by decide) rfl (by decide)
  have gf1 := b.gf gC (by decide) rfl (by decide)
  conv in defBody _ => whnf
  apply ss_cons
  · apply s1_st 1 ls1
    · walk_at "ev"
    · rfl
  apply ss_cons
  · apply s1_unpack (is := [2, 3]) b.calm ls2.nd
    · walk_at "ev"
    · exact ⟨ls2.n, ls2.l, ls2.f, fun _ => rfl, ls3.n, ls3.l, ls3.f, fun _ => rfl, trivial⟩
    all_goals rfl
  apply ss_cons
  · apply s1_st 4 ls4
    · walk_at "ev"
    · rfl
  apply ss_cons
  · apply s1_st 5 ls5
    · walk_at "ev"
    · rfl
  apply ss_cons
  · apply s1_st 6 ls6
    · walk_at "ev"
    · rfl
  apply ss_cons
  · apply s1_st 7 ls7
    · walk_at "ev"
    · rfl
  have hz := stp_3 x y
  have z0 : 0 < stp x y := by omega
  unfold dAroundL
  dsimp only
  apply ss_ifR
  · walk_at "et"
  · intro k
    simp only [if_pos k]
    apply ss_ifR
    · walk_at "et"
    · intro k2
      simp only [decide_eq_true_eq] at k2
      simp only [if_pos k2]
      exact ss_last (s1_ret (by walk_at "ev"))
    intro k2
    simp only [decide_eq_false_iff_not] at k2
    simp only [if_neg k2]
    exact ss_last (s1_ret (by walk_at "ev"))
  intro k
  rw [← Bool.not_eq_true] at k
  simp only [if_neg k]
  apply ss_ifR
  · walk_at "et"
  · intro k2
    simp only [decide_eq_true_eq] at k2
    simp only [if_pos k2]
    exact ss_last (s1_ret (by walk_at "ev"))
  intro k2
  simp only [decide_eq_false_iff_not] at k2
  simp only [if_neg k2]
  exact ss_last (s1_ret (by walk_at "ev"))
theorem sc_ok_ups : FnScope ["_law_plan_here", "_law_at", "_law_up"] ["_law_plan_here", "_law_at"] (defScope sUps) := ⟨rfl, rfl, rfl, by decide +kernel, rfl, by decide +kernel, by decide +kernel⟩
theorem ok_ups {f : Addr} {fd : FuncData} (F : Fun K "_law_ups" "_law_ups" sUps f fd) (gA : Fn P w K mg base 3 "_law_around" 1 (spD 1 RAroundL)) (gL : Fn P w K mg base 1 "_law_in" 2 (spD 2 RLies)) (gC : Fn P w K mg base 1 "_law_corner" 2 (spD 2 ROnC)) : FnOk P w K mg base CX0 4 f fd ["_law_plan_here", "_law_at"] (spD 2 RUps) := by
  refine fn_ok' F sc_ok_ups (by decide) fun X b ds r hl hR => ?_
  cases hR with | @mk w d s x y h1 h2 h3 h0 => ?_
  have nm0 := b.nm 0 "_law_plan_here" rfl (.inr (.inl rfl)) (by decide) (by decide)
  have nm1 := b.nm 1 "_law_at" rfl (.inl rfl) (by decide) (by decide)
  have gf0 := b.gf gA (by decide) rfl (by decide)
  conv in defBody _ => whnf
  obtain ⟨e1, he⟩ := dAroundL_facing x y
  apply ss_last
  apply s1_ret
  apply DE.is
  · apply de_lcL (f := ptF fun a b => inB w d s a b && !onC s a b) (g := id) b.calm (by rw [b.n_]; exact b.nd) (blkOk_by (by rw [b.n_, b.sc]; decide +kernel)) (blk_pg (i := 2) (by rw [b.n_]; exact b.nd) (by rw [b.n_]; rfl) rfl (by rw [b.sc]; exact .inl rfl) (by rw [b.sc]; rfl)) (by decide) (fun _ => rfl)
    · apply de_ixL0 (n := 1) (ds := [e1, .lst (ptsD (facingL x y))])
      · rw [← he]
        walk_at "ev"
      · rfl
    · show (ptsD (facingL x y)).length < sizeLine
      rw [List.length_map, facingL_len]
      decide
    intro q hq
    obtain ⟨⟨a, c⟩, _, rfl⟩ := List.mem_map.mp hq
    refine ⟨.one fun cx cb => ?_, fun _ cx cb => ?_⟩
    · skip
      have nm0 := cb.nm 0 "_law_plan_here" (by rw [b.n_]; rfl) (by rw [b.sc]; exact .inr (.inl rfl)) (by decide) (by decide)
      have nm2 := cb.nm 2 "_law_up" (by rw [b.n_]; rfl) (by rw [b.sc]; exact .inl rfl) (by decide) (by decide)
      have gf0 := cb.gfn b gL (by decide) rfl (by decide)
      have gf1 := cb.gfn b gC (by decide) rfl (by decide)
      apply DT.is
      · walk_at "et"
      · rfl
    · skip
      have nm0 := cb.nm 0 "_law_plan_here" (by rw [b.n_]; rfl) (by rw [b.sc]; exact .inr (.inl rfl)) (by decide) (by decide)
      have nm2 := cb.nm 2 "_law_up" (by rw [b.n_]; rfl) (by rw [b.sc]; exact .inl rfl) (by decide) (by decide)
      have gf0 := cb.gfn b gL (by decide) rfl (by decide)
      have gf1 := cb.gfn b gC (by decide) rfl (by decide)
      walk_at "ev"
  · exact congrArg Dt.lst (ptF_pts _ _)
theorem sc_ok_cornersOf : FnScope ["_law_shape"] ["_law_shape"] (defScope sCornersOf) := ⟨rfl, rfl, rfl, by decide +kernel, rfl, by decide +kernel, by decide +kernel⟩
theorem ok_cornersOf {f : Addr} {fd : FuncData} (F : Fun K "_law_corners_of" "_law_corners_of" sCornersOf f fd) : FnOk P w K mg base CX0 1 f fd ["_law_shape"] (spD 1 RCorners) := by
  refine fn_ok' F sc_ok_cornersOf (by decide) fun X b ds r hl hR => ?_
  cases hR with | @mk a1 b1 c1 d1 e1 f1 => ?_
  have nm0 := b.nm 0 "_law_shape" rfl (.inl rfl) (by decide) (by decide)
  conv in defBody _ => whnf
  exact ss_last (s1_ret (by walk_at "ev"))
theorem sc_ok_cross : FnScope ["_law_one", "_law_two", "_law_three", "_law_first"] ["_law_one", "_law_two", "_law_three"] (defScope sCross) := ⟨rfl, rfl, rfl, by decide +kernel, rfl, by decide +kernel, by decide +kernel⟩
theorem ok_cross {f : Addr} {fd : FuncData} (F : Fun K "_law_cross" "_law_cross" sCross f fd) : FnOk P w K mg base CX0 1 f fd ["_law_one", "_law_two", "_law_three"] (spD 3 RCross) := by
  refine fn_ok' F sc_ok_cross (by decide) fun X b ds r hl hR => ?_
  cases hR with | @mk a1 b1 c1 d1 e1 f1 h1 h2 h3 h4 h5 h6 => ?_
  have nm0 := b.nm 0 "_law_one" rfl (.inl rfl) (by decide) (by decide)
  have nm1 := b.nm 1 "_law_two" rfl (.inl rfl) (by decide) (by decide)
  have nm2 := b.nm 2 "_law_three" rfl (.inl rfl) (by decide) (by decide)
  have nm3 := b.nm 3 "_law_first" rfl (.inl rfl) (by decide) (by decide)
  have ls3 := b.ls 3 "_law_first" rfl (.inl rfl)
  conv in defBody _ => whnf
  apply ss_cons
  · apply s1_st 3 ls3
    · walk_at "ev"
    · rfl
  exact ss_last (s1_ret (by walk_at "ev"))
theorem sc_ok_weigh : FnScope ["_law_shape", "_law_x", "_law_y", "_law_scale", "_law_a", "_law_b", "_law_c", "_law_spot", "_law_sign", "_law_one", "_law_two", "_law_at"] ["_law_shape", "_law_x", "_law_y", "_law_scale"] (defScope sWeigh) := ⟨rfl, rfl, rfl, by decide +kernel, rfl, by decide +kernel, by decide +kernel⟩
theorem ok_weigh {f : Addr} {fd : FuncData} (F : Fun K "_law_weigh" "_law_weigh" sWeigh f fd) (gK : Fn P w K mg base 1 "_law_corners_of" 1 (spD 1 RCorners)) (gX : Fn P w K mg base 1 "_law_cross" 3 (spD 3 RCross)) : FnOk P w K mg base CX0 2 f fd ["_law_shape", "_law_x", "_law_y", "_law_scale"] (spD 4 RWeigh) := by
  refine fn_ok' F sc_ok_weigh (by decide) fun X b ds r hl hR => ?_
  cases hR with | @mk a1 b1 c1 d1 e1 f1 x y h1 h2 h3 h4 h5 h6 hx hy => ?_
  have nm0 := b.nm 0 "_law_shape" rfl (.inl rfl) (by decide) (by decide)
  have nm1 := b.nm 1 "_law_x" rfl (.inl rfl) (by decide) (by decide)
  have nm2 := b.nm 2 "_law_y" rfl (.inl rfl) (by decide) (by decide)
  have nm3 := b.nm 3 "_law_scale" rfl (.inr (.inl rfl)) (by decide) (by decide)
  have nm4 := b.nm 4 "_law_a" rfl (.inl rfl) (by decide) (by decide)
  have nm5 := b.nm 5 "_law_b" rfl (.inl rfl) (by decide) (by decide)
  have nm6 := b.nm 6 "_law_c" rfl (.inl rfl) (by decide) (by decide)
  have nm7 := b.nm 7 "_law_spot" rfl (.inl rfl) (by decide) (by decide)
  have nm8 := b.nm 8 "_law_sign" rfl (.inl rfl) (by decide) (by decide)
  have nm9 := b.nm 9 "_law_one" rfl (.inl rfl) (by decide) (by decide)
  have nm10 := b.nm 10 "_law_two" rfl (.inl rfl) (by decide) (by decide)
  have ls4 := b.ls 4 "_law_a" rfl (.inl rfl)
  have ls5 := b.ls 5 "_law_b" rfl (.inl rfl)
  have ls6 := b.ls 6 "_law_c" rfl (.inl rfl)
  have ls7 := b.ls 7 "_law_spot" rfl (.inl rfl)
  have ls8 := b.ls 8 "_law_sign" rfl (.inl rfl)
  have ls9 := b.ls 9 "_law_one" rfl (.inl rfl)
  have ls10 := b.ls 10 "_law_two" rfl (.inl rfl)
  have gf0 := b.gf gK (by decide) rfl (by decide)
  have gf1 := b.gf gX (by decide) rfl (by decide)
  conv in defBody _ => whnf
  apply ss_cons
  · apply s1_unpackL (is := [4, 5, 6]) b.calm ls4.nd (ds := [pt (a1 * 4) (b1 * 4), pt (c1 * 4) (d1 * 4), pt (e1 * 4) (f1 * 4)])
    · apply DE.is
      · apply de_lcL (f := fun _ => true) (g := fun d => match d with | .tup [.int p, .int q] => pt (p * 4) (q * 4) | _ => .non) b.calm (by rw [b.n_]; exact b.nd) (blkOk_by (by rw [b.n_, b.sc]; decide +kernel)) (blk_pg (i := 11) (by rw [b.n_]; exact b.nd) (by rw [b.n_]; rfl) rfl (by rw [b.sc]; exact .inl rfl) (by rw [b.sc]; rfl)) (by decide) (fun _ => rfl)
        · walk_at "ev"
        · show 3 < sizeLine
          decide
        intro q hq
        have hq' : ∃ u v : Int, q = pt u v ∧ Sm u ∧ Sm v := by
          rcases List.mem_cons.mp hq with e | hq
          · exact ⟨_, _, e, by omega, by omega⟩
          rcases List.mem_cons.mp hq with e | hq
          · exact ⟨_, _, e, by omega, by omega⟩
          rcases List.mem_cons.mp hq with e | hq
          · exact ⟨_, _, e, by omega, by omega⟩
          · cases hq
        obtain ⟨u, v, rfl, hu, hv⟩ := hq'
        refine ⟨.nil, fun _ cx cb => ?_⟩
        have nm3 := cb.nm 3 "_law_scale" (by rw [b.n_]; rfl) (by rw [b.sc]; exact .inr (.inl rfl)) (by decide) (by decide)
        have nm8 := cb.nm 11 "_law_at" (by rw [b.n_]; rfl) (by rw [b.sc]; exact .inl rfl) (by decide) (by decide)
        show DE cx _ _ (pt (u * 4) (v * 4))
        have nm11 : ∀ {E : En} {p : Pos} {d : Dt}, E[11]? = some (some d) → DE cx E (.Name "_law_at" p) d := fun hE => de_at 11 nm8 hE
        apply de_tup
        · apply da_cons
          · apply de_mul
            · apply de_ixT0
              · apply nm11
                rfl
              · rfl
            · walk_at "ev"
            · walk_at "side"
          · apply da_cons
            · apply de_mul
              · apply de_ixT0
                · apply nm11
                  rfl
                · rfl
              · walk_at "ev"
              · walk_at "side"
            · exact da_nil
            · rfl
          · rfl
        · exact len_ok rfl
      · rfl
    · exact ⟨ls4.n, ls4.l, ls4.f, fun _ => rfl, ls5.n, ls5.l, ls5.f, fun _ => rfl, ls6.n, ls6.l, ls6.f, fun _ => rfl, trivial⟩
    all_goals rfl
  apply ss_cons
  · apply s1_st 7 ls7
    · walk_at "ev"
    · rfl
  apply ss_cons
  · apply s1_st 8 ls8
    · walk_at "ev"
    · rfl
  have hsg : sgn (a1 * 4) (b1 * 4) (c1 * 4) (d1 * 4) (e1 * 4) (f1 * 4) = 1 ∨ sgn (a1 * 4) (b1 * 4) (c1 * 4) (d1 * 4) (e1 * 4) (f1 * 4) = 0 - 1 := by
    unfold sgn
    split <;> simp
  apply ss_cons (E' := [some (tr a1 b1 c1 d1 e1 f1), some (.int x), some (.int y), some (.int 4), some (pt (a1 * 4) (b1 * 4)), some (pt (c1 * 4) (d1 * 4)), some (pt (e1 * 4) (f1 * 4)), some (pt x y), some (.int (sgn (a1 * 4) (b1 * 4) (c1 * 4) (d1 * 4) (e1 * 4) (f1 * 4))), none, none, none])
  · by_cases hk : crs (a1 * 4) (b1 * 4) (c1 * 4) (d1 * 4) (e1 * 4) (f1 * 4) < 0
    · have e : sgn (a1 * 4) (b1 * 4) (c1 * 4) (d1 * 4) (e1 * 4) (f1 * 4) = 0 - 1 := if_pos hk
      rw [e]
      apply s1_ifT
      · apply DT.is
        · walk_at "et"
        · simpa using hk
      · apply ss_cons
        · apply s1_st 8 ls8
          · walk_at "ev"
          · rfl
        · exact ss_nil
    · have e : sgn (a1 * 4) (b1 * 4) (c1 * 4) (d1 * 4) (e1 * 4) (f1 * 4) = 1 := if_neg hk
      rw [e]
      apply s1_ifF
      · apply DT.is
        · walk_at "et"
        · simpa using hk
      · exact ss_nil
  unfold wts
  generalize sgn (a1 * 4) (b1 * 4) (c1 * 4) (d1 * 4) (e1 * 4) (f1 * 4) = sg at hsg ⊢
  apply ss_cons
  · apply s1_st 9 ls9
    · walk_at "ev"
    · rfl
  apply ss_cons
  · apply s1_st 10 ls10
    · walk_at "ev"
    · rfl
  exact ss_last (s1_ret (by walk_at "ev"))
end
end Br

-- BrMu
/-! the logic with own objects that change: M lists them (where, what they hold now) -/
namespace Br
open PySem L2 PySem.Spec PyProof.Rows

abbrev Mu := List (Addr × Dt)
abbrev keys (M : Mu) : List Addr := M.map (·.1)
def CR (Hf H : Hp) (D : Addr) : Dt → Prop
  | .lst ds => ∃ xs, H D = some (.lst xs) ∧ Reps Hf xs ds
  | .dct ks => H D = some (.dT (ks.map keyE))
  | .ob C ns ds => ∃ dx fs, H D = some (.ins C dx fs) ∧ fs.map (·.1) = ns ∧ Reps Hf (fs.map (·.2)) ds
  | _ => False
theorem CR.some {Hf H : Hp} {D : Addr} {c : Dt} (h : CR Hf H D c) : ∃ o, H D = some o ∧ NT o := by
  cases c with
  | lst ds => obtain ⟨xs, e, _⟩ := h; exact ⟨_, e, fun _ z => nomatch z⟩
  | dct ks => exact ⟨_, h, fun _ z => nomatch z⟩
  | ob C ns ds => obtain ⟨_, _, e, _⟩ := h; exact ⟨_, e, fun _ z => nomatch z⟩
  | _ => exact h.elim
theorem CR.mono {Hf H Hf' H' : Hp} {D : Addr} {c : Dt} (k : Same Hf Hf') (e : H' D = H D) (h : CR Hf H D c) : CR Hf' H' D c := by
  cases c with
  | lst ds => obtain ⟨xs, q, r⟩ := h; exact ⟨xs, e.trans q, r.mono k⟩
  | dct ks => exact e.trans h
  | ob C ns ds => obtain ⟨_, _, q, n, r⟩ := h; exact ⟨_, _, e.trans q, n, r.mono k⟩
  | _ => exact h.elim
structure MuR (Hf H : Hp) (M : Mu) : Prop where
  at_ : ∀ (i : Nat) D c, M[i]? = some (D, c) → Hf D = Option.none ∧ CR Hf H D c
  nd : ∀ (i j : Nat) D c c', M[i]? = some (D, c) → M[j]? = some (D, c') → i = j
def InM (M : Mu) (D : Addr) : Prop := ∃ (i : Nat) (c : Dt), M[i]? = some (D, c)
theorem inM_keys {M : Mu} {D : Addr} : InM M D ↔ ∃ i : Nat, (keys M)[i]? = some D := by
  constructor
  · rintro ⟨i, c, h⟩
    exact ⟨i, by rw [List.getElem?_map, h]; rfl⟩
  · rintro ⟨i, h⟩
    rw [List.getElem?_map] at h
    cases q : M[i]? with
    | none => rw [q] at h; cases h
    | some p =>
      rw [q] at h
      cases h
      exact ⟨i, p.2, q⟩
theorem inM_of {M M' : Mu} {D : Addr} (k : keys M' = keys M) (h : InM M' D) : InM M D := by
  rw [inM_keys] at h ⊢
  rw [← k]
  exact h
structure FrM (M : Mu) (Hf H Hf' H' : Hp) : Prop where
  f : Same Hf Hf'
  s : Same Hf' H'
  h : ∀ a o, ¬ InM M a → H a = some o → H' a = some o
  t : ∀ a o, H a = some o → ∃ o', H' a = some o'
  n : ∀ a o, ¬ InM M a → H a = some o → NT o → Hf a = Option.none → Hf' a = Option.none
theorem FrM.refl {M : Mu} {Hf H : Hp} (s : Same Hf H) : FrM M Hf H Hf H := ⟨Same.refl _, s, fun _ _ _ e => e, fun _ o e => ⟨o, e⟩, fun _ _ _ _ _ n => n⟩
theorem Fr2.toM {M : Mu} {Hf H Hf' H' : Hp} (a : Fr2 Hf H Hf' H') : FrM M Hf H Hf' H' := ⟨a.f, a.s, fun c o _ e => a.h c o e, fun c o e => ⟨o, a.h c o e⟩, fun c o _ e t n => a.n c o e t n⟩
theorem FrM.trans' {M M1 : Mu} {Hf H Hf1 H1 Hf2 H2 : Hp} (a : FrM M Hf H Hf1 H1) (b : FrM M1 Hf1 H1 Hf2 H2) (k : ∀ D, InM M1 D → InM M D ∨ H D = Option.none) : FrM M Hf H Hf2 H2 := by
  have no : ∀ c o, ¬ InM M c → H c = some o → ¬ InM M1 c := fun c o hc e hm => by
    rcases k c hm with q | q
    · exact hc q
    · rw [e] at q; cases q
  refine ⟨a.f.trans b.f, b.s, fun c o hc e => b.h c o (no c o hc e) (a.h c o hc e), fun c o e => ?_, fun c o hc e t n => b.n c o (no c o hc e) (a.h c o hc e) t (a.n c o hc e t n)⟩
  obtain ⟨o', e'⟩ := a.t c o e
  exact b.t c o' e'
theorem FrM.trans {M M1 : Mu} {Hf H Hf1 H1 Hf2 H2 : Hp} (a : FrM M Hf H Hf1 H1) (b : FrM M1 Hf1 H1 Hf2 H2) (k : keys M1 = keys M) : FrM M Hf H Hf2 H2 := a.trans' b fun _ h => .inl (inM_of k h)
theorem FrM.two {M : Mu} {Hf H Hf' H' : Hp} (a : FrM [] Hf H Hf' H') : Fr2 Hf H Hf' H' := by
  have no : ∀ c, ¬ InM [] c := fun c ⟨i, d, h⟩ => by simp at h
  exact ⟨a.f, fun c o e => a.h c o (no c) e, a.s, fun c o e t n => a.n c o (no c) e t n⟩
theorem MuR.fr2 {M : Mu} {Hf H Hf' H' : Hp} (m : MuR Hf H M) (a : Fr2 Hf H Hf' H') : MuR Hf' H' M := ⟨fun i D c h => by
  obtain ⟨n, r⟩ := m.at_ i D c h
  obtain ⟨o, e, t⟩ := r.some
  exact ⟨a.n D o e t n, r.mono a.f ((a.h D o e).trans e.symm)⟩, m.nd⟩
/-- the others' objects stand -/
theorem MuR.rest {M Mr : Mu} {Hf H Hf' H' : Hp} (m : MuR Hf H Mr) (a : FrM M Hf H Hf' H') (k : ∀ D, InM Mr D → ¬ InM M D) : MuR Hf' H' Mr := ⟨fun i D c h => by
  obtain ⟨n, r⟩ := m.at_ i D c h
  obtain ⟨o, e, t⟩ := r.some
  have hk := k D ⟨i, c, h⟩
  exact ⟨a.n D o hk e t n, r.mono a.f ((a.h D o hk e).trans e.symm)⟩, m.nd⟩
theorem muR_nil {Hf H : Hp} : MuR Hf H [] := ⟨fun i D c h => by simp at h, fun i j D c c' h => by simp at h⟩
theorem MuR.left {M Mr : Mu} {Hf H : Hp} (m : MuR Hf H (M ++ Mr)) : MuR Hf H M := by
  have g : ∀ {i : Nat} {p : Addr × Dt}, M[i]? = some p → (M ++ Mr)[i]? = some p := fun {i p} h => by
    rw [List.getElem?_append_left (List.getElem?_eq_some_iff.mp h).1]; exact h
  exact ⟨fun i D c h => m.at_ i D c (g h), fun i j D c c' h h' => m.nd i j D c c' (g h) (g h')⟩
theorem MuR.right {M Mr : Mu} {Hf H : Hp} (m : MuR Hf H (M ++ Mr)) : MuR Hf H Mr := by
  have g : ∀ {i : Nat} {p : Addr × Dt}, Mr[i]? = some p → (M ++ Mr)[M.length + i]? = some p := fun {i p} h => by
    rw [List.getElem?_append_right (by omega), Nat.add_sub_cancel_left]; exact h
  refine ⟨fun i D c h => m.at_ _ D c (g h), fun i j D c c' h h' => ?_⟩
  have := m.nd _ _ D c c' (g h) (g h')
  omega
theorem MuR.apart {M Mr : Mu} {Hf H : Hp} (m : MuR Hf H (M ++ Mr)) : ∀ D, InM Mr D → ¬ InM M D := by
  rintro D ⟨j, c', h'⟩ ⟨i, c, h⟩
  have hi := (List.getElem?_eq_some_iff.mp h).1
  have := m.nd i (M.length + j) D c c' (by rw [List.getElem?_append_left hi]; exact h) (by rw [List.getElem?_append_right (by omega), Nat.add_sub_cancel_left]; exact h')
  omega
theorem MuR.app {M Mr : Mu} {Hf H : Hp} (m : MuR Hf H M) (r : MuR Hf H Mr) (k : ∀ D, InM Mr D → ¬ InM M D) : MuR Hf H (M ++ Mr) := by
  have g : ∀ {i : Nat} {p : Addr × Dt}, (M ++ Mr)[i]? = some p → (i < M.length ∧ M[i]? = some p) ∨ (M.length ≤ i ∧ Mr[i - M.length]? = some p) := fun {i p} h => by
    by_cases hi : i < M.length
    · rw [List.getElem?_append_left hi] at h; exact .inl ⟨hi, h⟩
    · rw [List.getElem?_append_right (by omega)] at h; exact .inr ⟨by omega, h⟩
  refine ⟨fun i D c h => ?_, fun i j D c c' h h' => ?_⟩
  · rcases g h with ⟨_, q⟩ | ⟨_, q⟩
    · exact m.at_ _ D c q
    · exact r.at_ _ D c q
  · rcases g h with ⟨_, q⟩ | ⟨_, q⟩ <;> rcases g h' with ⟨_, q'⟩ | ⟨_, q'⟩
    · exact m.nd _ _ D c c' q q'
    · exact absurd ⟨_, _, q⟩ (k D ⟨_, _, q'⟩)
    · exact absurd ⟨_, _, q'⟩ (k D ⟨_, _, q⟩)
    · have := r.nd _ _ D c c' q q'; omega
theorem keys_app {M M' Mr : Mu} (k : keys M' = keys M) : keys (M' ++ Mr) = keys (M ++ Mr) := by
  unfold keys at k ⊢
  rw [List.map_append, List.map_append, k]
theorem inM_app {M Mr : Mu} {D : Addr} (h : InM M D) : InM (M ++ Mr) D := by
  obtain ⟨i, c, h⟩ := h
  exact ⟨i, c, by rw [List.getElem?_append_left (List.getElem?_eq_some_iff.mp h).1]; exact h⟩
theorem FrM.wide {M Mr : Mu} {Hf H Hf' H' : Hp} (a : FrM M Hf H Hf' H') : FrM (M ++ Mr) Hf H Hf' H' := ⟨a.f, a.s, fun c o hc e => a.h c o (fun q => hc (inM_app q)) e, a.t, fun c o hc e t n => a.n c o (fun q => hc (inM_app q)) e t n⟩
theorem set_same {α : Type} : ∀ {l : List α} {i : Nat} {a : α}, l[i]? = some a → l.set i a = l
  | [], _, _, h => by simp at h
  | b :: l, 0, a, h => by simp at h; subst h; rfl
  | b :: l, i + 1, a, h => by
    rw [List.set_cons_succ, set_same (l := l) (by simpa using h)]
theorem keys_set {M : Mu} {i : Nat} {D : Addr} {c c' : Dt} (h : M[i]? = some (D, c)) : keys (M.set i (D, c')) = keys M := by
  unfold keys
  rw [List.map_set]
  exact set_same (by rw [List.getElem?_map, h]; rfl)
/-- an own object is written -/
theorem MuR.set {M : Mu} {Hf H : Hp} {i : Nat} {D : Addr} {c c' : Dt} {o : HO} (m : MuR Hf H M) (h : M[i]? = some (D, c)) (q : CR Hf (upd H D o) D c') : MuR Hf (upd H D o) (M.set i (D, c')) := by
  have hi := (List.getElem?_eq_some_iff.mp h).1
  have back : ∀ j D' c'', (M.set i (D, c'))[j]? = some (D', c'') → (j = i ∧ D' = D ∧ c'' = c') ∨ (j ≠ i ∧ M[j]? = some (D', c'')) := fun j D' c'' g => by
    by_cases hj : i = j
    · subst hj
      rw [List.getElem?_set_self hi] at g
      cases g
      exact .inl ⟨rfl, rfl, rfl⟩
    · rw [List.getElem?_set_ne hj] at g
      exact .inr ⟨fun z => hj z.symm, g⟩
  refine ⟨fun j D' c'' g => ?_, fun j k D' c1 c2 g1 g2 => ?_⟩
  · rcases back j D' c'' g with ⟨rfl, rfl, rfl⟩ | ⟨hj, g'⟩
    · exact ⟨(m.at_ _ _ _ h).1, q⟩
    · have ne : D' ≠ D := fun z => by subst z; exact hj (m.nd _ _ _ _ _ g' h)
      obtain ⟨n, r⟩ := m.at_ _ _ _ g'
      exact ⟨n, r.mono (Same.refl _) (upd_ne ne)⟩
  · rcases back j D' c1 g1 with ⟨rfl, rfl, rfl⟩ | ⟨hj, g1'⟩ <;> rcases back k D' c2 g2 with ⟨rfl, e, _⟩ | ⟨hk, g2'⟩
    · rfl
    · exact (m.nd _ _ _ _ _ h g2')
    · subst e; exact (m.nd _ _ _ _ _ g1' h)
    · exact m.nd _ _ _ _ _ g1' g2'
theorem FrM.put {M : Mu} {Hf H : Hp} {i : Nat} {D : Addr} {c : Dt} {o : HO} (s : Same Hf H) (m : MuR Hf H M) (h : M[i]? = some (D, c)) : FrM M Hf H Hf (upd H D o) := by
  have hD := (m.at_ _ _ _ h).1
  refine ⟨Same.refl _, fun a u e => by rw [upd_ne (ne_of_none e hD)]; exact s a u e, fun a u hm e => ?_, fun a u e => ?_, fun a u _ _ _ n => n⟩
  · rw [upd_ne (fun z => hm ⟨i, c, by rw [z]; exact h⟩)]; exact e
  · by_cases z : a = D
    · subst z; exact ⟨o, upd_same⟩
    · exact ⟨u, by rw [upd_ne z]; exact e⟩
/-- a new own object -/
theorem MuR.new {M : Mu} {Hf H : Hp} {D : Addr} {c : Dt} {o : HO} (s : Same Hf H) (m : MuR Hf H M) (hD : H D = Option.none) (q : CR Hf (upd H D o) D c) : MuR Hf (upd H D o) (M ++ [(D, c)]) := by
  refine MuR.app (m.fr2 (Fr2.own s hD o)) ⟨fun i D' c' h => ?_, fun i j D' c1 c2 h1 h2 => ?_⟩ ?_
  · have hi : i = 0 := by
      have := (List.getElem?_eq_some_iff.mp h).1
      simp at this
      exact this
    subst hi
    cases h
    exact ⟨s.free hD, q⟩
  · have g1 := (List.getElem?_eq_some_iff.mp h1).1
    have g2 := (List.getElem?_eq_some_iff.mp h2).1
    simp at g1 g2
    omega
  · rintro D' ⟨i, c', h⟩ ⟨j, c'', h'⟩
    have hi : i = 0 := by
      have := (List.getElem?_eq_some_iff.mp h).1
      simp at this
      exact this
    subst hi
    cases h
    obtain ⟨_, r⟩ := m.at_ _ _ _ h'
    obtain ⟨u, e, _⟩ := r.some
    rw [hD] at e
    cases e
theorem MuR.get {M : Mu} {Hf H : Hp} {i : Nat} {D : Addr} {ds : List Dt} (m : MuR Hf H M) (h : M[i]? = some (D, .lst ds)) : ∃ xs, H D = some (.lst xs) ∧ Reps Hf xs ds := (m.at_ _ _ _ h).2
theorem MuR.dict {M : Mu} {Hf H : Hp} {i : Nat} {D : Addr} {ks : List (Int × Int)} (m : MuR Hf H M) (h : M[i]? = some (D, .dct ks)) : H D = some (.dT (ks.map keyE)) := (m.at_ _ _ _ h).2

/-! ### a reading is whatever reading there is -/
def uE (X : Cx) (e : Expr) : TE := fun σ H Q => ∃ t, PE X e t ∧ t σ H Q
def uT (X : Cx) (e : Expr) : TT := fun σ H Q => ∃ t, PT X e t ∧ t σ H Q
def uA (X : Cx) (es : List Expr) : TA := fun σ H Q => ∃ t, PA X es t ∧ t σ H Q
def u1 (X : Cx) (st : Stmt) : TS := fun D σ H => ∃ t, PS X st t ∧ t D σ H
def uS (X : Cx) (sts : List Stmt) : TS := fun D σ H => ∃ t, PSs X sts t ∧ t D σ H
theorem pe_u {X : Cx} {e : Expr} : PE X e (uE X e) := ⟨fun pins s σ H Q I ⟨_, p, h⟩ => p.run pins s σ H Q I h⟩
theorem pt_u {X : Cx} {e : Expr} : PT X e (uT X e) := ⟨fun pins s σ H Q I ⟨_, p, h⟩ => p.run pins s σ H Q I h⟩
theorem pa_u {X : Cx} {es : List Expr} : PA X es (uA X es) := ⟨fun pos pins s σ H Q I ⟨_, p, h⟩ => p.run pos pins s σ H Q I h⟩
theorem ps_u {X : Cx} {st : Stmt} : PS X st (u1 X st) := ⟨fun pins s σ H D I ⟨_, p, h⟩ => p.run pins s σ H D I h⟩
theorem pss_u {X : Cx} {sts : List Stmt} : PSs X sts (uS X sts) := ⟨fun pins s σ H D I ⟨_, p, h⟩ => p.run pins s σ H D I h⟩

def EvM (te : TE) (E : En) (M : Mu) (d : Dt) (M' : Mu) : Prop := ∀ (Hf : Hp) (σ : L2.St) (H : Hp), Same Hf H → EnvR Hf σ E → MuR Hf H M → ∀ Q : VK, (∀ v Hf' H', FrM M Hf H Hf' H' → MuR Hf' H' M' → Rep Hf' v d → Q v H') → te σ H Q
def EvTM (tt : TT) (E : En) (M : Mu) (b : Bool) (M' : Mu) : Prop := ∀ (Hf : Hp) (σ : L2.St) (H : Hp), Same Hf H → EnvR Hf σ E → MuR Hf H M → ∀ Q : Bool → Hp → Prop, (∀ Hf' H', FrM M Hf H Hf' H' → MuR Hf' H' M' → Q b H') → tt σ H Q
def EvAM (ta : TA) (E : En) (M : Mu) (ds : List Dt) (M' : Mu) : Prop := ∀ (Hf : Hp) (σ : L2.St) (H : Hp), Same Hf H → EnvR Hf σ E → MuR Hf H M → ∀ Q : List V → Hp → Prop, (∀ vs Hf' H', FrM M Hf H Hf' H' → MuR Hf' H' M' → Reps Hf' vs ds → Q vs H') → ta σ H Q
structure DM (X : Cx) (E : En) (M : Mu) (e : Expr) (d : Dt) (M' : Mu) : Prop where
  k : keys M' = keys M
  r : EvM (uE X e) E M d M'
structure TM (X : Cx) (E : En) (M : Mu) (e : Expr) (b : Bool) (M' : Mu) : Prop where
  k : keys M' = keys M
  r : EvTM (uT X e) E M b M'
structure AM (X : Cx) (E : En) (M : Mu) (es : List Expr) (ds : List Dt) (M' : Mu) : Prop where
  k : keys M' = keys M
  r : EvAM (uA X es) E M ds M'
theorem DM.is {X : Cx} {E : En} {M M' : Mu} {e : Expr} {d d' : Dt} (h : DM X E M e d M') (q : d = d') : DM X E M e d' M' := q ▸ h
theorem TM.is {X : Cx} {E : En} {M M' : Mu} {e : Expr} {d d' : Bool} (h : TM X E M e d M') (q : d = d') : TM X E M e d' M' := q ▸ h
section
variable {X : Cx} {E : En} {M M1 M2 M3 : Mu} {a b c : Expr} {pos : Pos} {da db dc : Dt} {i j k : Int}
theorem dm_of {e : Expr} {t : TE} {d : Dt} (p : PE X e t) (hk : keys M1 = keys M) (r : EvM t E M d M1) : DM X E M e d M1 := ⟨hk, fun Hf σ H s e m Q q => ⟨t, p, r Hf σ H s e m Q q⟩⟩
theorem ev_toM {t : TE} {d : Dt} (r : Ev t E d) : EvM t E M d M := fun Hf σ H s e m Q q => r Hf σ H s e Q fun v Hf' H' f rv => q v Hf' H' f.toM (m.fr2 f) rv
theorem dm_ {e : Expr} {d : Dt} (h : DE X E e d) : DM X E M e d M := let ⟨_, p, r⟩ := h; dm_of p rfl (ev_toM r)
theorem tm_ {e : Expr} {d : Bool} (h : DT X E e d) : TM X E M e d M := let ⟨t, p, r⟩ := h; ⟨rfl, fun Hf σ H s e m Q q => ⟨t, p, r Hf σ H s e Q fun Hf' H' f => q Hf' H' f.toM (m.fr2 f)⟩⟩
theorem am_ {es : List Expr} {ds : List Dt} (h : DA X E es ds) : AM X E M es ds M := let ⟨t, p, r⟩ := h; ⟨rfl, fun Hf σ H s e m Q q => ⟨t, p, r Hf σ H s e Q fun v Hf' H' f rv => q v Hf' H' f.toM (m.fr2 f) rv⟩⟩
theorem evm_two {ta tb : TE} {r : R2} {d : Dt} (ka : keys M1 = keys M) (kb : keys M2 = keys M1) (ha : EvM ta E M da M1) (hb : EvM tb E M1 db M2)
    (hr : ∀ (Hf H : Hp) (x y : V) (Q : VK), Same Hf H → MuR Hf H M2 → Rep Hf x da → Rep Hf y db → (∀ v Hf' H', FrM M2 Hf H Hf' H' → MuR Hf' H' M3 → Rep Hf' v d → Q v H') → r x y H Q) : EvM (tOp r ta tb) E M d M3 := by
  intro Hf σ H s e m Q q
  refine ha Hf σ H s e m _ fun x Hf1 H1 f1 m1 r1 => ?_
  refine hb Hf1 σ H1 f1.s (e.mono f1.f) m1 _ fun y Hf2 H2 f2 m2 r2 => ?_
  exact hr Hf2 H2 x y Q f2.s m2 (r1.mono f2.f) r2 fun v Hf3 H3 f3 m3 r3 => q v Hf3 H3 ((f1.trans f2 ka).trans f3 (kb.trans ka)) m3 r3
theorem env0 {Hf : Hp} : EnvR Hf [] [] := ⟨rfl, fun i d h => by simp at h⟩
theorem ev_c {z : Int} : Ev (tC (.int z)) E (.int z) := fun _ _ _ s _ Q q => ev_now s (.int z) q
/-- an operation on two numbers that is told for constants -/
theorem evm_int {r : R2} {d : Dt} {ta tb : TE} (ka : keys M1 = keys M) (kb : keys M2 = keys M1) (hr : Ev (tOp r (tC (.int i)) (tC (.int j))) [] d) (ha : EvM ta E M (.int i) M1) (hb : EvM tb E M1 (.int j) M2) : EvM (tOp r ta tb) E M d M2 :=
  evm_two ka kb ha hb fun Hf H x y Q s m rx ry q => by
    cases rx
    cases ry
    exact hr Hf [] H s env0 Q fun v Hf' H' f rv => q v Hf' H' f.toM (m.fr2 f) rv
theorem dm_op {op : Operator} {r : R2} {d : Dt} (p : OpR X (binaryOp op) r) (hr : Ev (tOp r (tC (.int i)) (tC (.int j))) [] d) (ha : DM X E M a (.int i) M1) (hb : DM X E M1 b (.int j) M2) : DM X E M (.BinOp a op b pos) d M2 :=
  dm_of (pe_op p pe_u pe_u) (hb.k.trans ha.k) (evm_int ha.k hb.k hr ha.r hb.r)
theorem dm_add (ha : DM X E M a (.int i) M1) (hb : DM X E M1 b (.int j) M2) : DM X E M (.BinOp a .Add b pos) (.int (i + j)) M2 := dm_op op_add (ev_I0 (k := fun i j => .int (i + j)) (fun _ => .int _) ev_c ev_c) ha hb
theorem dm_sub (ha : DM X E M a (.int i) M1) (hb : DM X E M1 b (.int j) M2) : DM X E M (.BinOp a .Sub b pos) (.int (i - j)) M2 := dm_op op_sub (ev_I0 (k := fun i j => .int (i - j)) (fun _ => .int _) ev_c ev_c) ha hb
theorem dm_mul (ha : DM X E M a (.int i) M1) (hb : DM X E M1 b (.int j) M2) (hc : CMul i j) : DM X E M (.BinOp a .Mult b pos) (.int (i * j)) M2 := dm_op op_mul (ev_I (k := fun i j => .int (i * j)) hc (fun _ => .int _) ev_c ev_c) ha hb
theorem dm_mod (ha : DM X E M a (.int i) M1) (hb : DM X E M1 b (.int j) M2) (hc : 0 < j) : DM X E M (.BinOp a .Mod b pos) (.int (i % j)) M2 := dm_op op_mod (ev_I (k := fun i j => .int (i % j)) hc (fun _ => .int _) ev_c ev_c) ha hb
theorem dm_fdiv (ha : DM X E M a (.int i) M1) (hb : DM X E M1 b (.int j) M2) (hc : CDiv i j) : DM X E M (.BinOp a .FloorDiv b pos) (.int (i / j)) M2 := dm_op op_fdiv (ev_I (k := fun i j => .int (i / j)) hc (fun _ => .int _) ev_c ev_c) ha hb
theorem dm_cmp {op : CmpOp} {p : Int → Int → Bool} (h : CmpI X op p) (ha : DM X E M a (.int i) M1) (hb : DM X E M1 b (.int j) M2) : DM X E M (.Compare a [op] [b] pos) (.bool (p i j)) M2 := by
  obtain ⟨r, ho, hm, hr⟩ := h
  exact dm_of (pe_cmpR ho pe_u pe_u (hm _)) (hb.k.trans ha.k) (evm_int ha.k hb.k (hr ev_c ev_c) ha.r hb.r)
theorem evm_test {t : TE} {x : Bool} (h : EvM t E M (.bool x) M1) : EvTM (tTest t) E M x M1 := fun Hf σ H s e m Q q => h Hf σ H s e m _ fun v Hf' H' f m' r => by
  cases r
  exact ⟨x, rfl, q Hf' H' f m'⟩
theorem tm_of {e : Expr} {t : TT} {x : Bool} (p : PT X e t) (hk : keys M1 = keys M) (r : EvTM t E M x M1) : TM X E M e x M1 := ⟨hk, fun Hf σ H s e m Q q => ⟨t, p, r Hf σ H s e m Q q⟩⟩
theorem tm_cmp {op : CmpOp} {p : Int → Int → Bool} (h : CmpI X op p) (ha : DM X E M a (.int i) M1) (hb : DM X E M1 b (.int j) M2) : TM X E M (.Compare a [op] [b] pos) (p i j) M2 := by
  obtain ⟨r, ho, hm, hr⟩ := h
  exact tm_of (pt_cmpR ho pe_u pe_u (hm _)) (hb.k.trans ha.k) (evm_test (evm_int ha.k hb.k (hr ev_c ev_c) ha.r hb.r))
theorem am_nil : AM X E M [] [] M := am_ da_nil
theorem am_cons {e : Expr} {es : List Expr} {d : Dt} {ds : List Dt} (h : DM X E M e d M1) (hr : AM X E M1 es ds M2) (hs : starEach (e :: es) X.env = (false, eval e X.env) :: starEach es X.env) : AM X E M (e :: es) (d :: ds) M2 :=
  ⟨hr.k.trans h.k, fun Hf σ H s e m Q q => ⟨_, pa_cons pe_u pa_u hs, h.r Hf σ H s e m _ fun v Hf1 H1 f1 m1 r1 => hr.r Hf1 σ H1 f1.s (e.mono f1.f) m1 _ fun vs Hf2 H2 f2 m2 r2 => q (v :: vs) Hf2 H2 (f1.trans f2 h.k) m2 (.cons (r1.mono f2.f) r2)⟩⟩
/-! ### own lists and dicts, read -/
theorem dm_ix {n m : Nat} {D : Addr} {ds : List Dt} {d : Dt} (ha : DM X E M a (.raw (.ref D)) M1) (hb : DM X E M1 b (.int (n : Int)) M2) (hm : M2[m]? = some (D, .lst ds)) (hd : ds[n]? = some d) (hs : PlainIx b) : DM X E M (.Subscript a b pos) d M2 :=
  dm_of (pe_ix ix_list pe_u pe_u hs) (hb.k.trans ha.k) (evm_two ha.k hb.k ha.r hb.r fun Hf H x y Q s mm rx ry q => by
    cases rx
    cases ry
    obtain ⟨xs, e, r⟩ := mm.get hm
    obtain ⟨v, hv, rv⟩ := r.get hd
    exact ⟨_, _, _, v, rfl, rfl, SqL.of e, atI_nat hv, q v Hf H (FrM.refl s) mm rv⟩)
theorem dm_ixD {n : Nat} {ds : List Dt} {d : Dt} (ha : DM X E M a (.lst ds) M1) (hb : DM X E M1 b (.int (n : Int)) M2) (hd : ds[n]? = some d) (hs : PlainIx b) : DM X E M (.Subscript a b pos) d M2 :=
  dm_of (pe_ix ix_list pe_u pe_u hs) (hb.k.trans ha.k) (evm_two ha.k hb.k ha.r hb.r fun Hf H x y Q s mm rx ry q => by
    cases ry
    cases rx with
    | lst h r =>
      obtain ⟨v, hv, rv⟩ := r.get hd
      exact ⟨_, _, _, v, rfl, rfl, SqL.of (s _ _ h), atI_nat hv, q v Hf H (FrM.refl s) mm rv⟩)
theorem dm_ix0 {n m : Nat} {D : Addr} {ds : List Dt} {d : Dt} {jj} {p2 : Pos} (ha : DM X E M a (.raw (.ref D)) M) (hm : M[m]? = some (D, .lst ds)) (hd : ds[n]? = some d) : DM X E M (.Subscript a (.Constant (.int (n : Int)) jj p2) pos) d M := dm_ix ha (dm_ de_int) hm hd (fun _ _ => rfl)
theorem dm_len {m : Nat} {D : Addr} {ds : List Dt} {p : Pos} (hg : Gl X "len") (hmg : X.mg "len" = Option.none) (ha : DM X E M a (.raw (.ref D)) M1) (hm : M1[m]? = some (D, .lst ds)) (hs : starEach [a] X.env = (false, eval a X.env) :: starEach [] X.env) : DM X E M (.Call (.Name "len" p) [a] [] pos) (.int (ds.length : Int)) M1 := by
  refine dm_of (pe_callB call_len_seq hg hmg PySem.boot_len pa_u (by decide) (by decide) hs rfl) ha.k fun Hf σ H s e m Q q => ?_
  refine (am_cons ha am_nil hs).r Hf σ H s e m _ fun vs Hf1 H1 f1 m1 r1 => ?_
  obtain ⟨v, rfl, rv⟩ := reps1 r1
  cases rv
  obtain ⟨xs, e1, rr⟩ := m1.get hm
  refine ⟨_, _, rfl, .inl (SqL.of e1), ?_⟩
  rw [rr.length]
  exact q _ Hf1 H1 f1 m1 (.int _)
/-! ### the list's methods -/
theorem tyL {D : Addr} {xs : List V} {K : PySem.W.Frag} {H : Hp} (h : H D = some (.lst xs)) : tyV K "list" (.ref D) H := .inl ⟨rfl, xs, SqL.of h⟩
theorem evm_bm {r : V → List V → Hp → VK → Prop} {t : TA} {m : Nat} {D : Addr} {ds0 args : List Dt} {d : Dt} {to : TE} (ho : EvM to E M (.raw (.ref D)) M) (hm0 : M[m]? = some (D, .lst ds0)) (ha : EvAM t E M args M1)  (hk : keys M1 = keys M)
    (hr : ∀ (Hf H : Hp) (vs : List V) (Q : VK), Same Hf H → MuR Hf H M1 → Reps Hf vs args → (∀ v Hf' H', FrM M1 Hf H Hf' H' → MuR Hf' H' M2 → Rep Hf' v d → Q v H') → r (.ref D) vs H Q) : EvM (tBM X.K "list" r to t) E M d M2 := by
  intro Hf σ H s e mm Q q
  refine ho Hf σ H s e mm _ fun v Hf1 H1 f1 m1 r1 => ?_
  cases r1
  obtain ⟨xs, e1, _⟩ := m1.get hm0
  refine ⟨tyL e1, ha Hf1 σ H1 f1.s (e.mono f1.f) m1 _ fun vs Hf2 H2 f2 m2 r2 => ?_⟩
  exact hr Hf2 H2 vs Q f2.s m2 r2 fun v Hf3 H3 f3 m3 r3 => q v Hf3 H3 ((f1.trans f2 rfl).trans f3 hk) m3 r3
end
end Br

-- BrMu2
namespace Br
open PySem L2 PySem.Spec PyProof.Rows
theorem Reps.take {H : Hp} : ∀ {vs : List V} {ds : List Dt} (n : Nat), Reps H vs ds → Reps H (vs.take n) (ds.take n)
  | _, _, 0, _ => .nil
  | _, _, _ + 1, .nil => .nil
  | _, _, n + 1, .cons h r => .cons h (Reps.take n r)
theorem Reps.drop {H : Hp} : ∀ {vs : List V} {ds : List Dt} (n : Nat), Reps H vs ds → Reps H (vs.drop n) (ds.drop n)
  | _, _, 0, r => r
  | _, _, _ + 1, .nil => .nil
  | _, _, n + 1, .cons h r => Reps.drop n r
theorem Reps.set {H : Hp} {v : V} {d : Dt} (hv : Rep H v d) : ∀ {vs : List V} {ds : List Dt} (n : Nat), Reps H vs ds → Reps H (vs.set n v) (ds.set n d)
  | _, _, _, .nil => .nil
  | _, _, 0, .cons h r => .cons hv r
  | _, _, n + 1, .cons h r => .cons h (Reps.set hv n r)
section
variable {X : Cx} {E E' : En} {M M1 M2 M3 : Mu} {a b c : Expr} {pos : Pos} {da db dc : Dt} {i j k : Int}
/-- the shape of a method's call: one plain argument -/
structure BmS (X : Cx) (o e : Expr) (name : Str) (apos cpos : Pos) : Prop where
  b : attributeBase o name X.env (eval o X.env) = eval o X.env
  f : ((backTo cpos (starEach [e] X.env)).all (fun x => !x.1) && (backToKw cpos (keywordEach [] X.env)).all (fun x => x.1.isSome) && decide ([e].length + ([] : List Keyword).length + (if ([] : List Keyword).isEmpty then 0 else 1) < 30)) = true
  l : (apos.endLine == cpos.line) = true
  s : starEach [e] X.env = (false, eval e X.env) :: starEach [] X.env
theorem dm_append {m : Nat} {D : Addr} {ds0 ds : List Dt} {o e : Expr} {apos cpos : Pos} {d : Dt} (ho : DE X E o (.raw (.ref D))) (hm0 : M[m]? = some (D, .lst ds0)) (he : DM X E M e d M1) (hm : M1[m]? = some (D, .lst ds)) (hz : ds.length < sizeLine) (B : BmS X o e "append" apos cpos) :
    DM X E M (.Call (.Attribute o "append" apos) [e] [] cpos) .non (M1.set m (D, .lst (ds ++ [d]))) :=
  dm_of (pe_bm PySem.F.plainAttrs_list PySem.F.slot_list_append PySem.F.type_list_append mt_append pe_u pa_u B.b B.f B.l B.s rfl) ((keys_set hm).trans he.k)
    (evm_bm (M2 := M1.set m (D, .lst (ds ++ [d]))) (dm_ ho).r hm0 (am_cons he am_nil B.s).r he.k fun Hf H vs Q s mm r q => by
      obtain ⟨v, rfl, rv⟩ := reps1 r
      obtain ⟨xs, e1, rr⟩ := mm.get hm
      refine ⟨D, xs, v, rfl, rfl, e1, by rw [rr.length]; exact hz, ?_⟩
      exact q _ Hf _ (FrM.put s mm hm) (mm.set hm ⟨_, upd_same, rr.snoc rv⟩) .non)
theorem dm_extend {m : Nat} {D : Addr} {ds0 ds es : List Dt} {o e : Expr} {apos cpos : Pos} (ho : DE X E o (.raw (.ref D))) (hm0 : M[m]? = some (D, .lst ds0)) (he : DM X E M e (.lst es) M1) (hm : M1[m]? = some (D, .lst ds)) (hz : ds.length + es.length ≤ sizeLine) (B : BmS X o e "extend" apos cpos) :
    DM X E M (.Call (.Attribute o "extend" apos) [e] [] cpos) .non (M1.set m (D, .lst (ds ++ es))) :=
  dm_of (pe_bm PySem.F.plainAttrs_list PySem.F.slot_list_extend PySem.F.type_list_extend mt_extend pe_u pa_u B.b B.f B.l B.s rfl) ((keys_set hm).trans he.k)
    (evm_bm (M2 := M1.set m (D, .lst (ds ++ es))) (dm_ ho).r hm0 (am_cons he am_nil B.s).r he.k fun Hf H vs Q s mm r q => by
      obtain ⟨v, rfl, rv⟩ := reps1 r
      cases rv with
      | lst hh rr2 =>
        obtain ⟨xs, e1, rr⟩ := mm.get hm
        refine ⟨D, _, xs, _, rfl, rfl, e1, s _ _ hh, by rw [rr.length, rr2.length]; exact hz, ?_⟩
        exact q _ Hf _ (FrM.put s mm hm) (mm.set hm ⟨_, upd_same, rr.append rr2⟩) .non)
theorem dm_popAt {m n : Nat} {D : Addr} {ds0 ds : List Dt} {o e : Expr} {apos cpos : Pos} {d : Dt} (ho : DE X E o (.raw (.ref D))) (hm0 : M[m]? = some (D, .lst ds0)) (he : DM X E M e (.int (n : Int)) M1) (hm : M1[m]? = some (D, .lst ds)) (hd : ds[n]? = some d) (hz : n < 1000000) (B : BmS X o e "pop" apos cpos) :
    DM X E M (.Call (.Attribute o "pop" apos) [e] [] cpos) d (M1.set m (D, .lst (ds.eraseIdx n))) :=
  dm_of (pe_bm PySem.F.plainAttrs_list PySem.F.slot_list_pop PySem.F.type_list_pop mt_popAt pe_u pa_u B.b B.f B.l B.s rfl) ((keys_set hm).trans he.k)
    (evm_bm (M2 := M1.set m (D, .lst (ds.eraseIdx n))) (dm_ ho).r hm0 (am_cons he am_nil B.s).r he.k fun Hf H vs Q s mm r q => by
      obtain ⟨v, rfl, rv⟩ := reps1 r
      cases rv
      obtain ⟨xs, e1, rr⟩ := mm.get hm
      obtain ⟨y, hy, ry⟩ := rr.get hd
      have hn : n < xs.length := (List.getElem?_eq_some_iff.mp hy).1
      refine ⟨D, xs, n, n, y, rfl, rfl, e1, by omega, by omega, by rw [seqIndex_of (by omega) (by omega)]; rfl, hy, ?_⟩
      refine q _ Hf _ (FrM.put s mm hm) (mm.set hm ⟨_, upd_same, ?_⟩) ry
      rw [List.eraseIdx_eq_take_drop_succ, List.eraseIdx_eq_take_drop_succ]
      exact (rr.take n).append (rr.drop (n + 1)))
theorem dm_pop {m : Nat} {D : Addr} {ds : List Dt} {o : Expr} {apos cpos : Pos} {d : Dt} (ho : DE X E o (.raw (.ref D))) (hm : M[m]? = some (D, .lst (ds ++ [d]))) (hb : attributeBase o "pop" X.env (eval o X.env) = eval o X.env) (hl : (apos.endLine == cpos.line) = true) :
    DM X E M (.Call (.Attribute o "pop" apos) [] [] cpos) d (M.set m (D, .lst ds)) :=
  dm_of (pe_bm0 PySem.F.plainAttrs_list PySem.F.slot_list_pop PySem.F.type_list_pop mt_pop pe_u hb hl) (keys_set hm) fun Hf σ H s e mm Q q => by
    refine (dm_ ho).r Hf σ H s e mm _ fun v Hf1 H1 f1 m1 r1 => ?_
    cases r1
    obtain ⟨xs, e1, rr⟩ := m1.get hm
    have hl := rr.length
    rw [List.length_append, List.length_singleton] at hl
    obtain ⟨y, hy, ry⟩ := rr.get (i := ds.length) (d := d) (by rw [List.getElem?_append_right (Nat.le_refl _), Nat.sub_self]; rfl)
    refine ⟨tyL e1, D, xs, y, rfl, rfl, e1, by rw [hl]; exact hy, ?_⟩
    refine q _ Hf1 _ (f1.trans (FrM.put f1.s m1 hm) rfl) (m1.set hm ⟨_, upd_same, ?_⟩) ry
    rw [List.dropLast_eq_take, hl, Nat.add_sub_cancel]
    have := rr.take ds.length
    rw [List.take_left' rfl] at this
    exact this
/-! ### dicts of points -/
def putP (ks : List (Int × Int)) (p : Int × Int) : List (Int × Int) := if p ∈ ks then ks else ks ++ [p]
theorem keyE_inj {p q : Int × Int} (h : (keyE p).1 = (keyE q).1) : p = q := by
  obtain ⟨a, b⟩ := p
  obtain ⟨c, d⟩ := q
  simp [keyE] at h
  rw [h.1, h.2]
theorem putK_keyE (ks : List (Int × Int)) (p : Int × Int) : putK (ks.map keyE) [Sum.inl p.1, Sum.inl p.2] (V.bl true) = (putP ks p).map keyE := by
  unfold putK putP
  have ha : ((ks.map keyE).any fun kv => decide (kv.1 = [Sum.inl p.1, Sum.inl p.2])) = decide (p ∈ ks) := by
    rw [Bool.eq_iff_iff, List.any_eq_true, decide_eq_true_eq]
    constructor
    · rintro ⟨kv, hm, he⟩
      obtain ⟨q, hq, rfl⟩ := List.mem_map.mp hm
      rw [keyE_inj (p := p) (q := q) (of_decide_eq_true he).symm]
      exact hq
    · intro h
      exact ⟨keyE p, List.mem_map_of_mem h, decide_eq_true rfl⟩
  rw [ha]
  by_cases h : p ∈ ks
  · rw [if_pos (decide_eq_true h), if_pos h, List.map_map]
    apply List.map_congr_left
    intro q _
    show (if (keyE q).1 = _ then ((keyE q).1, V.bl true) else keyE q) = keyE q
    split <;> rfl
  · rw [if_neg (by rw [decide_eq_true_eq]; exact h), if_neg h, List.map_append]
    rfl
theorem valV_keyE (ks : List (Int × Int)) (p : Int × Int) : (valV (ks.map keyE) [Sum.inl p.1, Sum.inl p.2]).isSome = decide (p ∈ ks) := by
  unfold valV
  rw [Option.isSome_map, Bool.eq_iff_iff, List.find?_isSome, decide_eq_true_eq]
  constructor
  · rintro ⟨kv, hm, he⟩
    obtain ⟨q, hq, rfl⟩ := List.mem_map.mp hm
    rw [keyE_inj (p := p) (q := q) (of_decide_eq_true he).symm]
    exact hq
  · intro h
    exact ⟨keyE p, List.mem_map_of_mem h, decide_eq_true rfl⟩
/-- a point's key in the heap -/
theorem rep_pt {Hf H : Hp} {v : V} {x y : Int} (s : Same Hf H) (r : Rep Hf v (.tup [.int x, .int y])) : ∃ b, v = .ref b ∧ H b = some (.tup (([Sum.inl x, Sum.inl y] : List Key).map kV)) := by
  cases r with
  | tup h r =>
    obtain ⟨v1, v2, rfl, h1, h2⟩ := reps2 r
    cases h1
    cases h2
    exact ⟨_, rfl, s _ _ h⟩
theorem ev_in {ty td : TE} {x y : Int} {ks : List (Int × Int)} (hy : Ev ty E (.tup [.int x, .int y])) (hd : Ev td E (.dct ks)) : Ev (tDIn ty td) E (.bool (decide ((x, y) ∈ ks))) := fun Hf σ H s e Q q => by
  refine hy Hf σ H s e _ fun v Hf1 H1 f1 r1 => hd Hf1 σ H1 f1.s (e.mono f1.f) _ fun u Hf2 H2 f2 r2 => ?_
  obtain ⟨b, rfl, hb⟩ := rep_pt f2.s (r1.fr f2)
  cases r2 with
  | dct h => exact ⟨_, _, rfl, .inr ⟨_, [Sum.inl x, Sum.inl y], b, h.same f2.s, rfl, hb, rfl⟩, by rw [valV_keyE ks (x, y)]; exact q _ Hf2 H2 (f1.trans f2) (.bool _)⟩
theorem ev_notin {ty td : TE} {x y : Int} {ks : List (Int × Int)} (hy : Ev ty E (.tup [.int x, .int y])) (hd : Ev td E (.dct ks)) : Ev (tDNotIn ty td) E (.bool (!decide ((x, y) ∈ ks))) := fun Hf σ H s e Q q => by
  refine hy Hf σ H s e _ fun v Hf1 H1 f1 r1 => hd Hf1 σ H1 f1.s (e.mono f1.f) _ fun u Hf2 H2 f2 r2 => ?_
  obtain ⟨b, rfl, hb⟩ := rep_pt f2.s (r1.fr f2)
  cases r2 with
  | dct h => exact ⟨_, _, rfl, .inr ⟨_, [Sum.inl x, Sum.inl y], b, h.same f2.s, rfl, hb, rfl⟩, by rw [valV_keyE ks (x, y)]; exact q _ Hf2 H2 (f1.trans f2) (.bool _)⟩
theorem de_in {x y : Int} {ks : List (Int × Int)} (hu : X.A.units + 1 < cLine) (ha : DE X E a (.tup [.int x, .int y])) (hb : DE X E b (.dct ks)) (h1 : behindInMarks .In b = false) : DE X E (.Compare a [.In] [b] pos) (.bool (decide ((x, y) ∈ ks))) :=
  let ⟨_, p1, r1⟩ := ha; let ⟨_, p2, r2⟩ := hb; ⟨_, pe_cmp (pc_din hu p1 p2) h1, ev_in r1 r2⟩
theorem dt_in {x y : Int} {ks : List (Int × Int)} (hu : X.A.units + 1 < cLine) (ha : DE X E a (.tup [.int x, .int y])) (hb : DE X E b (.dct ks)) (h1 : behindInMarks .In b = false) : DT X E (.Compare a [.In] [b] pos) (decide ((x, y) ∈ ks)) :=
  let ⟨_, p1, r1⟩ := ha; let ⟨_, p2, r2⟩ := hb; ⟨_, pt_cmp (pc_din hu p1 p2) h1, evT_test (ev_in r1 r2)⟩
theorem dt_notin {x y : Int} {ks : List (Int × Int)} (hu : X.A.units + 1 < cLine) (ha : DE X E a (.tup [.int x, .int y])) (hb : DE X E b (.dct ks)) (h1 : behindInMarks .NotIn b = false) : DT X E (.Compare a [.NotIn] [b] pos) (!decide ((x, y) ∈ ks)) :=
  let ⟨_, p1, r1⟩ := ha; let ⟨_, p2, r2⟩ := hb; ⟨_, pt_cmp (pc_dnotin hu p1 p2) h1, evT_test (ev_notin r1 r2)⟩
/-- x not in d, d one's own -/
theorem tm_notin {m : Nat} {D : Addr} {x y : Int} {ks : List (Int × Int)} (hu : X.A.units + 1 < cLine) (ha : DE X E a (.tup [.int x, .int y])) (hb : DE X E b (.raw (.ref D))) (hm : M[m]? = some (D, .dct ks)) (h1 : behindInMarks .NotIn b = false) : TM X E M (.Compare a [.NotIn] [b] pos) (!decide ((x, y) ∈ ks)) M := by
  obtain ⟨_, p1, r1⟩ := ha
  obtain ⟨_, p2, r2⟩ := hb
  refine tm_of (pt_cmp (pc_dnotin hu p1 p2) h1) rfl (evm_test fun Hf σ H s e mm Q q => ?_)
  refine r1 Hf σ H s e _ fun v Hf1 H1 f1 r1 => r2 Hf1 σ H1 f1.s (e.mono f1.f) _ fun u Hf2 H2 f2 r2 => ?_
  obtain ⟨b, rfl, hb⟩ := rep_pt f2.s (r1.fr f2)
  cases r2
  have m2 := (mm.fr2 f1).fr2 f2
  exact ⟨_, _, rfl, .inr ⟨_, [Sum.inl x, Sum.inl y], b, .inl (m2.dict hm), rfl, hb, rfl⟩, by rw [valV_keyE ks (x, y)]; exact q _ Hf2 H2 (f1.trans f2).toM m2 (.bool _)⟩

/-! ### statements -/
inductive OM where
  | nx (E : En) (M : Mu)
  | rt (d : Dt) (M : Mu)
def OutM (M : Mu) (Hf H : Hp) (D : Ends) : OM → Prop
  | .nx E' M' => ∀ σ' Hf' H', FrM M Hf H Hf' H' → EnvR Hf' σ' E' → MuR Hf' H' M' → D.nx σ' H'
  | .rt d M' => ∀ v Hf' H', FrM M Hf H Hf' H' → MuR Hf' H' M' → Rep Hf' v d → D.rt v H'
def KO (M : Mu) : OM → Prop
  | .nx _ M' => keys M' = keys M
  | .rt _ _ => True
def RunM (ts : TS) (E : En) (M : Mu) (o : OM) : Prop := ∀ (Hf : Hp) (σ : L2.St) (H : Hp) (D : Ends), Same Hf H → EnvR Hf σ E → MuR Hf H M → OutM M Hf H D o → ts D σ H
structure S1M (X : Cx) (E : En) (M : Mu) (st : Stmt) (o : OM) : Prop where
  k : KO M o
  r : RunM (u1 X st) E M o
structure SM (X : Cx) (E : En) (M : Mu) (sts : List Stmt) (o : OM) : Prop where
  k : KO M o
  r : RunM (uS X sts) E M o
theorem OutM.after {M M1 : Mu} {Hf H Hf' H' : Hp} {D : Ends} {o : OM} (f : FrM M Hf H Hf' H') (hk : keys M1 = keys M) (k : OutM M Hf H D o) : OutM M1 Hf' H' D o := by
  cases o with
  | nx E' M' => exact fun σ' Hf2 H2 f2 e2 m2 => k σ' Hf2 H2 (f.trans f2 hk) e2 m2
  | rt d M' => exact fun v Hf2 H2 f2 m2 r2 => k v Hf2 H2 (f.trans f2 hk) m2 r2
theorem KO.after {M M1 : Mu} {o : OM} (hk : keys M1 = keys M) (k : KO M1 o) : KO M o := by
  cases o with
  | nx E' M' => exact Eq.trans k hk
  | rt d M' => trivial
variable {st : Stmt} {rest sts : List Stmt} {o : OM} {e : Expr} {d : Dt}
theorem SM.is {d' : Dt} (h : SM X E M sts (.rt d M1)) (q : d = d') : SM X E M sts (.rt d' M1) := q ▸ h
theorem sm1_nx {E1 : En} (h : S1 X E st (.nx E1)) : S1M X E M st (.nx E1 M) := let ⟨_, p, r⟩ := h; ⟨rfl, fun Hf σ H D s q m k => ⟨_, p, r Hf σ H D s q fun σ' Hf' H' f e' => k σ' Hf' H' f.toM e' (m.fr2 f)⟩⟩
theorem sm1_rt (h : S1 X E st (.rt d)) : S1M X E M st (.rt d M) := let ⟨_, p, r⟩ := h; ⟨trivial, fun Hf σ H D s q m k => ⟨_, p, r Hf σ H D s q fun σ' Hf' H' f e' => k σ' Hf' H' f.toM (m.fr2 f) e'⟩⟩
theorem sm_rt (h : SS X E sts (.rt d)) : SM X E M sts (.rt d M) := let ⟨_, p, r⟩ := h; ⟨trivial, fun Hf σ H D s q m k => ⟨_, p, r Hf σ H D s q fun σ' Hf' H' f e' => k σ' Hf' H' f.toM (m.fr2 f) e'⟩⟩
theorem sm_nx {E1 : En} (h : SS X E sts (.nx E1)) : SM X E M sts (.nx E1 M) := let ⟨_, p, r⟩ := h; ⟨rfl, fun Hf σ H D s q m k => ⟨_, p, r Hf σ H D s q fun σ' Hf' H' f e' => k σ' Hf' H' f.toM e' (m.fr2 f)⟩⟩
theorem sm_nil : SM X E M [] (.nx E M) := ⟨rfl, fun Hf σ H D s q m k => ⟨_, pss_nil, k σ Hf H (FrM.refl s) q m⟩⟩
theorem sm_cons (h1 : S1M X E M st (.nx E' M1)) (h2 : SM X E' M1 rest o) : SM X E M (st :: rest) o :=
  ⟨h2.k.after h1.k, fun Hf σ H D s e m k => ⟨_, pss_cons ps_u pss_u, h1.r Hf σ H _ s e m fun σ' Hf' H' f e' m' => h2.r Hf' σ' H' D f.s e' m' (k.after f h1.k)⟩⟩
theorem sm_last (h1 : S1M X E M st (.rt d M1)) : SM X E M (st :: rest) (.rt d M1) :=
  ⟨trivial, fun Hf σ H D s e m k => ⟨_, pss_cons ps_u pss_never, h1.r Hf σ H _ s e m k⟩⟩
theorem sm1_ret (h : DM X E M e d M1) : S1M X E M (.Return (some e) pos) (.rt d M1) := ⟨trivial, fun Hf σ H D s q m k => ⟨_, ps_ret pe_u, h.r Hf σ H s q m _ k⟩⟩
theorem sm1_expr (h : DM X E M e d M1) (hs : swapsWith e Option.none pos.line X.env = pure false) : S1M X E M (.Expr e pos) (.nx E M1) := ⟨h.k, fun Hf σ H D s q m k => ⟨_, ps_expr pe_u hs, h.r Hf σ H s q m _ fun v Hf' H' f m' rv => k _ Hf' H' f (q.mono f.f) m'⟩⟩
theorem sm1_st {x : Str} {p' : Pos} (i : Nat) (L : Ls X i x) (h : DM X E M e d M1) (hs : swapsWith e (some (.Name x p')) pos.line X.env = pure false) : S1M X E M (.Assign [.Name x p'] e pos) (.nx (E.set i (some d)) M1) :=
  ⟨h.k, fun Hf σ H D s q m k => ⟨_, ps_set L.nd L.n L.l pe_u hs L.f, h.r Hf σ H s q m _ fun v Hf' H' f m' rv => k _ Hf' H' f ((q.mono f.f).set i rv) m'⟩⟩
theorem sm1_ifT {A B : List Stmt} (hc : TM X E M c true M1) (h : SM X E M1 A o) : S1M X E M (.If c A B pos) o :=
  ⟨h.k.after hc.k, fun Hf σ H D s q m k => ⟨_, ps_if pt_u pss_u pss_never, hc.r Hf σ H s q m _ fun Hf' H' f m' => by
    rw [if_pos rfl]
    exact h.r Hf' σ H' D f.s (q.mono f.f) m' (k.after f hc.k)⟩⟩
theorem sm1_ifF {A B : List Stmt} (hc : TM X E M c false M1) (h : SM X E M1 B o) : S1M X E M (.If c A B pos) o :=
  ⟨h.k.after hc.k, fun Hf σ H D s q m k => ⟨_, ps_if pt_u pss_never pss_u, hc.r Hf σ H s q m _ fun Hf' H' f m' => by
    rw [if_neg Bool.false_ne_true]
    exact h.r Hf' σ H' D f.s (q.mono f.f) m' (k.after f hc.k)⟩⟩
/-- xs[i] = v -/
theorem sm1_setL {m n : Nat} {D : Addr} {ds : List Dt} {o' ix : Expr} {p2 : Pos} (he : DM X E M e d M1) (ho : DM X E M1 o' (.raw (.ref D)) M2) (hi : DM X E M2 ix (.int (n : Int)) M3) (hm : M3[m]? = some (D, .lst ds)) (hn : n < ds.length)
    (ha : ∀ v, assign (.Subscript o' ix p2) X.env v = (do
      let ov ← holding [v] (eval o' X.env)
      let iv ← holding [v, ov] (eval ix X.env)
      standAt p2
      holding [v, ov, iv] (setItem ov iv v)
      release [v, ov, iv] [])) (hs : swapsWithSole [.Subscript o' ix p2] e pos.line X.env = pure false) (hw : swappedStores [.Subscript o' ix p2] e X.env = pure Option.none) (h1 : (assignEach [.Subscript o' ix p2] X.env).map (·.2) = [assign (.Subscript o' ix p2) X.env]) :
    S1M X E M (.Assign [.Subscript o' ix p2] e pos) (.nx E (M3.set m (D, .lst (ds.set n d)))) := by
  refine ⟨(keys_set hm).trans (hi.k.trans (ho.k.trans he.k)), fun Hf σ H D' s q mm k => ⟨_, ps_asg pe_u (pg_sub pe_u pe_u set_list ha) hs hw h1, ?_⟩⟩
  refine he.r Hf σ H s q mm _ fun v Hf1 H1 f1 m1 r1 => ho.r Hf1 σ H1 f1.s (q.mono f1.f) m1 _ fun w Hf2 H2 f2 m2 r2 => hi.r Hf2 σ H2 f2.s ((q.mono f1.f).mono f2.f) m2 _ fun u Hf3 H3 f3 m3 r3 => ?_
  cases r2
  cases r3
  obtain ⟨xs, e1, rr⟩ := m3.get hm
  have hl := rr.length
  refine ⟨D, xs, n, n, rfl, rfl, e1, ?_, ?_⟩
  · unfold ixN
    rw [if_pos (by omega)]
    first | rfl | (rw [if_pos (by omega)]; rfl) | simp
  · have f := ((f1.trans f2 he.k).trans f3 (ho.k.trans he.k)).trans (FrM.put (o := .lst (xs.set n v)) f3.s m3 hm) (hi.k.trans (ho.k.trans he.k))
    exact k σ Hf3 _ f (((q.mono f1.f).mono f2.f).mono f3.f) (m3.set hm ⟨_, upd_same, Reps.set ((r1.mono f2.f).mono f3.f) n rr⟩)
/-- d[x, y] = True, d one's own -/
theorem sm1_putT {m : Nat} {D : Addr} {x y : Int} {ks : List (Int × Int)} {o' ix : Expr} {p2 : Pos} (hu : X.A.units + 1 < cLine) (he : DE X E e (.bool true)) (ho : DE X E o' (.raw (.ref D))) (hi : DE X E ix (.tup [.int x, .int y])) (hm : M[m]? = some (D, .dct ks)) (hl : ks.length < sizeLine)
    (hs : swapsWith e (some (.Subscript o' ix p2)) pos.line X.env = pure false) : S1M X E M (.Assign [.Subscript o' ix p2] e pos) (.nx E (M.set m (D, .dct (putP ks (x, y))))) := by
  obtain ⟨_, p1, r1⟩ := he
  obtain ⟨_, p2, r2⟩ := ho
  obtain ⟨_, p3, r3⟩ := hi
  refine ⟨keys_set hm, fun Hf σ H D' s q mm k => ⟨_, ps_dput hu p2 p3 p1 hs, ?_⟩⟩
  refine r1 Hf σ H s q _ fun v Hf1 H1 f1 r1 => r2 Hf1 σ H1 f1.s (q.mono f1.f) _ fun w Hf2 H2 f2 r2 => r3 Hf2 σ H2 f2.s ((q.mono f1.f).mono f2.f) _ fun u Hf3 H3 f3 r3 => ?_
  cases r1
  cases r2
  obtain ⟨b, rfl, hb⟩ := rep_pt f3.s r3
  have f := (f1.trans f2).trans f3
  have m3 := mm.fr2 f
  refine ⟨D, _, rfl, DPut.t (m3.dict hm) hb (by rw [List.length_map]; exact hl), ?_⟩
  refine k σ Hf3 _ (f.toM.trans (FrM.put f3.s m3 hm) rfl) (q.mono f.f) (m3.set hm ?_)
  show upd H3 D _ D = _
  rw [upd_same, putK_keyE ks (x, y)]
end
end Br

-- BrMu3
namespace Br
open PySem L2 PySem.Spec PyProof.Rows
/-! ### new own objects -/
def NW (X : Cx) (E : En) (M : Mu) (e : Expr) (c : Dt) : Prop := ∀ (Hf : Hp) (σ : L2.St) (H : Hp), Same Hf H → EnvR Hf σ E → MuR Hf H M → ∀ Q : VK, (∀ D Hf' H', FrM M Hf H Hf' H' → MuR Hf' H' (M ++ [(D, c)]) → H D = Option.none → Q (.ref D) H') → uE X e σ H Q
section
variable {X : Cx} {E E' : En} {M M1 M2 M3 M' : Mu} {a b c : Expr} {pos : Pos} {da db dc : Dt} {i j : Int} {st : Stmt} {rest sts : List Stmt} {o : OM} {e : Expr} {d : Dt}
theorem nw_of {Hf H Hf1 H1 : Hp} {D : Addr} {cc : Dt} {u : HO} (f1 : FrM M Hf H Hf1 H1) (m1 : MuR Hf1 H1 M) (hD : H1 D = Option.none) (q : CR Hf1 (upd H1 D u) D cc) : FrM M Hf H Hf1 (upd H1 D u) ∧ MuR Hf1 (upd H1 D u) (M ++ [(D, cc)]) ∧ H D = Option.none := by
  refine ⟨f1.trans (Fr2.own f1.s hD u).toM rfl, m1.new f1.s hD q, ?_⟩
  cases hh : H D with
  | none => rfl
  | some o =>
    obtain ⟨o', e⟩ := f1.t D o hh
    rw [hD] at e
    cases e
theorem nw_lst {es : List Expr} {ds : List Dt} (h : DA X E es ds) (hl : ds.length ≤ sizeLine) : NW X E M (.List es pos) (.lst ds) := fun Hf σ H s e m Q q => ⟨_, pe_lst pa_u, by
  refine (am_ h).r Hf σ H s e m _ fun vs Hf1 H1 f1 m1 r1 => ⟨by rw [r1.length]; exact hl, fun p hp => ?_⟩
  obtain ⟨g1, g2, g3⟩ := nw_of (cc := .lst ds) (u := .lst vs) f1 m1 hp ⟨_, upd_same, r1⟩
  exact q p Hf1 _ g1 g2 g3⟩
theorem nw_dict : NW X E M (.Dict [] [] pos) (.dct []) := fun Hf σ H s e m Q q => ⟨_, pe_dnewT, fun p hp => by
  obtain ⟨g1, g2, g3⟩ := nw_of (cc := .dct []) (u := .dT []) (FrM.refl s) m hp upd_same
  exact q p Hf _ g1 g2 g3⟩
theorem boot_list_ : bootBuiltins ("list" : Str) = some (.type "list") := by decide +kernel
theorem nw_list {p : Pos} {ds : List Dt} (hg : Gl X "list") (hm : X.mg "list" = Option.none) (ha : DE X E a (.lst ds)) (hs : starEach [a] X.env = (false, eval a X.env) :: starEach [] X.env) : NW X E M (.Call (.Name "list" p) [a] [] pos) (.lst ds) := fun Hf σ H s e m Q q =>
  ⟨_, pe_callTy call_list_of hg hm boot_list_ pa_u (by decide) (by decide) hs rfl, by
    refine (am_ (da_cons ha da_nil hs)).r Hf σ H s e m _ fun vs Hf1 H1 f1 m1 r1 => ?_
    obtain ⟨v, rfl, rv⟩ := reps1 r1
    cases rv with
    | lst h r => exact ⟨_, _, rfl, .inl (SqL.of (f1.s _ _ h)), fun l hl => by
        obtain ⟨g1, g2, g3⟩ := nw_of (cc := .lst ds) (u := .lst _) f1 m1 hl ⟨_, upd_same, r⟩
        exact q l Hf1 _ g1 g2 g3⟩⟩
/-- the same as data -/
theorem de_list {p : Pos} {ds : List Dt} (hg : Gl X "list") (hm : X.mg "list" = Option.none) (ha : DE X E a (.lst ds)) (hs : starEach [a] X.env = (false, eval a X.env) :: starEach [] X.env) : DE X E (.Call (.Name "list" p) [a] [] pos) (.lst ds) :=
  de_cT call_list_of hg hm boot_list_ (da_cons ha da_nil hs) (fun Hf H vs Q s r q => by
    obtain ⟨v, rfl, rv⟩ := reps1 r
    cases rv with
    | lst h r => exact ⟨_, _, rfl, .inl (SqL.of (s _ _ h)), fun l hl => q _ _ _ (Fr2.new s hl _) (.lst upd_same (r.mono (Fr2.new s hl _).f))⟩) (by decide) (by decide) hs rfl
/-- name = a new object; the rest -/
theorem sm_new {x : Str} {p' : Pos} {cc : Dt} (i : Nat) (L : Ls X i x) (h : NW X E M e cc) (hs : swapsWith e (some (.Name x p')) pos.line X.env = pure false) (r : ∀ D, SM X (E.set i (some (.raw (.ref D)))) (M ++ [(D, cc)]) rest (.rt d M')) :
    SM X E M (.Assign [.Name x p'] e pos :: rest) (.rt d M') := ⟨trivial, fun Hf σ H D' s q m k => ⟨_, pss_cons (ps_set L.nd L.n L.l pe_u hs L.f) pss_u, by
  refine h Hf σ H s q m _ fun D Hf1 H1 f1 m1 hD => ?_
  refine (r D).r Hf1 _ H1 D' f1.s ((q.mono f1.f).set i (.raw _)) m1 fun v Hf2 H2 f2 m2 r2 => k v Hf2 H2 (f1.trans' f2 fun D2 h2 => ?_) m2 r2
  obtain ⟨n, c', hn⟩ := h2
  by_cases hl : n < M.length
  · rw [List.getElem?_append_left hl] at hn
    exact .inl ⟨n, c', hn⟩
  · rw [List.getElem?_append_right (by omega)] at hn
    have : n - M.length = 0 := by
      have := (List.getElem?_eq_some_iff.mp hn).1
      simp at this
      omega
    rw [this] at hn
    cases hn
    exact .inr hD⟩⟩
theorem cr_rep {Hf H : Hp} {D : Addr} {c : Dt} (h : CR Hf H D c) (n : Hf D = Option.none) : ∃ o, H D = some o ∧ Rep (upd Hf D o) (.ref D) c := by
  have g : ∀ o, Same Hf (upd Hf D o) := fun o => same_new n o
  cases c with
  | lst ds => obtain ⟨xs, e, r⟩ := h; exact ⟨_, e, .lst upd_same (r.mono (g _))⟩
  | dct ks => exact ⟨_, h, .dct (.inl upd_same)⟩
  | ob C ns ds => obtain ⟨dx, fs, e, hn, r⟩ := h; exact ⟨_, e, .ob upd_same hn (r.mono (g _))⟩
  | _ => exact h.elim
/-- the last own object is given to the data -/
theorem MuR.adopt {Hf H : Hp} {D : Addr} {c : Dt} (s : Same Hf H) (m : MuR Hf H (M ++ [(D, c)])) : ∃ Hf', Rep Hf' (.ref D) c ∧ Same Hf Hf' ∧ Same Hf' H ∧ MuR Hf' H M ∧ ∀ a, a ≠ D → Hf' a = Hf a := by
  have hl : (M ++ [(D, c)])[M.length]? = some (D, c) := by rw [List.getElem?_append_right (Nat.le_refl _), Nat.sub_self]; rfl
  obtain ⟨n, r⟩ := m.at_ _ _ _ hl
  obtain ⟨o, e, rr⟩ := cr_rep r n
  refine ⟨upd Hf D o, rr, same_new n o, fun a u q => ?_, ⟨fun i D' c' h => ?_, m.left.nd⟩, fun a ne => upd_ne ne⟩
  · by_cases z : a = D
    · subst z
      rw [upd_same] at q
      rw [e, ← q]
    · rw [upd_ne z] at q; exact s _ _ q
  · have ne : D' ≠ D := fun z => by
      subst z
      exact m.apart D' ⟨0, c, rfl⟩ ⟨i, c', h⟩
    obtain ⟨n', r'⟩ := m.left.at_ _ _ _ h
    exact ⟨by rw [upd_ne ne]; exact n', r'.mono (same_new n o) rfl⟩
theorem inM_last {D : Addr} {c : Dt} : InM (M ++ [(D, c)]) D := ⟨M.length, c, by rw [List.getElem?_append_right (Nat.le_refl _), Nat.sub_self]; rfl⟩
theorem sm_freeze {D : Addr} {cc : Dt} (i : Nat) (hE : E[i]? = some (some (.raw (.ref D)))) (r : SM X (E.set i (some cc)) M sts (.rt d M')) : SM X E (M ++ [(D, cc)]) sts (.rt d M') := ⟨trivial, fun Hf σ H D' s q m k => by
  obtain ⟨Hf1, rr, g1, g2, m1, g3⟩ := m.adopt s
  have q1 : EnvR Hf1 σ (E.set i (some cc)) := by
    have q0 := (q.mono g1).set i rr
    obtain ⟨v, h1, h2⟩ := q.at_ i _ hE
    cases h2
    have e : σ.set i (some (.ref D)) = σ := set_same h1
    rw [e] at q0
    exact q0
  refine r.r Hf1 σ H D' g2 q1 m1 fun v Hf2 H2 f2 m2 r2 => k v Hf2 H2 ⟨g1.trans f2.f, f2.s, fun a o hm e => f2.h a o (fun z => hm (inM_app z)) e, f2.t, fun a o hm e t n => f2.n a o (fun z => hm (inM_app z)) e t ?_⟩ m2 r2
  rw [g3 a fun z => hm (by rw [z]; exact inM_last)]
  exact n⟩
/-! ### what a loop walks -/
def ItOk (J : It) (ds : List Dt) (Hf1 : Hp) : Prop :=
  (∀ k H, Same Hf1 H → k < ds.length → J.go k H) ∧ (∀ k H, Same Hf1 H → ds.length ≤ k → J.stop k H) ∧
  ∀ k H x H', Same Hf1 H → k < ds.length → J.yld k H x H' → H' = H ∧ ∃ d, ds[k]? = some d ∧ ∀ Hf, Same Hf1 Hf → Same Hf H → ∃ Hf', Fr2 Hf H Hf' H ∧ Rep Hf' x d
def uI (X : Cx) (tg e : Expr) : TI := fun σ H R => ∃ t, PI X tg e t ∧ t σ H R
theorem pi_u {tg : Expr} : PI X tg e (uI X tg e) := ⟨fun pins s σ H R I ⟨_, p, h⟩ => p.run pins s σ H R I h⟩
structure IDM (X : Cx) (E : En) (M : Mu) (tg e : Expr) (ds : List Dt) (M' : Mu) : Prop where
  k : keys M' = keys M
  r : ∀ (Hf : Hp) (σ : L2.St) (H : Hp), Same Hf H → EnvR Hf σ E → MuR Hf H M → ∀ R : It → Hp → Prop, (∀ J Hf' H', FrM M Hf H Hf' H' → MuR Hf' H' M' → ItOk J ds Hf' → R J H') → uI X tg e σ H R
theorem id_list {tg : Expr} {ds : List Dt} (h : DM X E M e (.lst ds) M1) : IDM X E M tg e ds M1 := ⟨h.k, fun Hf σ H s q m R k => ⟨_, pi_list pe_u, h.r Hf σ H s q m _ fun v Hf1 H1 f1 m1 rv => by
  cases rv with
  | @lst a xs _ hx rx =>
    refine ⟨a, rfl, ⟨xs, SqL.of (f1.s _ _ hx)⟩, k _ Hf1 H1 f1 m1 ⟨fun n H' s' hn => ?_, fun n H' s' hn => ?_, fun n H' x H'' s' hn y => ?_⟩⟩
    · obtain ⟨x, hx'⟩ : ∃ x, xs[n]? = some x := ⟨xs[n]'(by rw [rx.length]; exact hn), List.getElem?_eq_getElem _⟩
      exact ⟨xs, x, SqL.of (s' _ _ hx), hx'⟩
    · exact ⟨xs, SqL.of (s' _ _ hx), by rw [rx.length]; exact hn⟩
    · obtain ⟨e1, e2⟩ := y
      obtain ⟨d, hd, rd⟩ := rx.getV (e2 xs (SqL.of (s' _ _ hx)))
      exact ⟨e1, d, hd, fun Hf s1 s2 => ⟨Hf, Fr2.refl s2, rd.mono s1⟩⟩⟩⟩
theorem itr_ok {Hf1 : Hp} (lo : Int) (n : Nat) : ItOk (Itr lo n) ((List.range n).map fun k : Nat => Dt.int (lo + (k : Int))) Hf1 := by
  refine ⟨fun k H _ hk => ?_, fun k H _ hk => ?_, fun k H x H' _ hk y => ?_⟩
  · rw [List.length_map, List.length_range] at hk; exact hk
  · rw [List.length_map, List.length_range] at hk; exact hk
  · rw [List.length_map, List.length_range] at hk
    obtain ⟨e1, e2⟩ := y
    exact ⟨e1, .int (lo + k), by rw [List.getElem?_map, List.getElem?_range hk]; rfl, fun Hf _ s2 => ⟨Hf, Fr2.refl s2, by rw [e2]; exact .int _⟩⟩
theorem id_range1 {tg : Expr} {p : Pos} {n : Nat} (hg : Gl X "range") (hm : X.mg "range" = Option.none) (h : DM X E M a (.int n) M1) (hn : n < 1000000) (hs : starEach [a] X.env = [(false, eval a X.env)]) : IDM X E M tg (.Call (.Name "range" p) [a] [] pos) ((List.range n).map fun k : Nat => Dt.int ((0 : Int) + (k : Int))) M1 :=
  ⟨h.k, fun Hf σ H s q m R k => ⟨_, pi_range1 hg hm pa_u hs, (am_cons h am_nil hs).r Hf σ H s q m _ fun vs Hf1 H1 f1 m1 r1 => by
    obtain ⟨v, rfl, rv⟩ := reps1 r1
    cases rv
    exact ⟨n, rfl, by omega, by omega, k _ Hf1 H1 f1 m1 (by rw [Int.toNat_natCast]; exact itr_ok 0 n)⟩⟩⟩
theorem id_range2 {tg : Expr} {p : Pos} {lo hi : Int} (hg : Gl X "range") (hm : X.mg "range" = Option.none) (ha : DE X E a (.int lo)) (hb : DE X E b (.int hi)) (h1 : -1000000 ≤ lo) (h2 : lo < 1000000) (h3 : -1000000 ≤ hi) (h4 : hi < 1000000) (hs : starEach [a, b] X.env = [(false, eval a X.env), (false, eval b X.env)]) (hs2 : starEach [b] X.env = [(false, eval b X.env)]) :
    IDM X E M tg (.Call (.Name "range" p) [a, b] [] pos) ((List.range (hi - lo).toNat).map fun k : Nat => Dt.int (lo + (k : Int))) M :=
  ⟨rfl, fun Hf σ H s q m R k => ⟨_, pi_range2 hg hm pa_u hs hs2, (am_cons (dm_ ha) (am_cons (dm_ hb) am_nil hs2) (by rw [hs, hs2])).r Hf σ H s q m _ fun vs Hf1 H1 f1 m1 r1 => by
    obtain ⟨v, v', rfl, rv, rv'⟩ := reps2 r1
    cases rv
    cases rv'
    exact ⟨lo, hi, rfl, ⟨by omega, by omega, by omega, by omega⟩, k _ Hf1 H1 f1 m1 (itr_ok lo _)⟩⟩⟩
/-! ### for -/
inductive ForM (X : Cx) (i : Nat) (body : List Stmt) : List Dt → En → Mu → OM → Prop
  | nil {E : En} {M : Mu} : ForM X i body [] E M (.nx E M)
  | next {d : Dt} {ds : List Dt} {E E' : En} {M M' : Mu} {o : OM} : SM X (E.set i (some d)) M body (.nx E' M') → ForM X i body ds E' M' o → ForM X i body (d :: ds) E M o
  | ret {d : Dt} {ds : List Dt} {E : En} {M M' : Mu} {v : Dt} : SM X (E.set i (some d)) M body (.rt v M') → ForM X i body (d :: ds) E M (.rt v M')
theorem ForM.ko {i : Nat} {body : List Stmt} {ds : List Dt} (h : ForM X i body ds E M o) : KO M o := by
  induction h with
  | nil => rfl
  | next hb _ ih => exact ih.after hb.k
  | ret _ => trivial
theorem sm1_for {x : Str} {p' : Pos} {i : Nat} {iter : Expr} {body : List Stmt} {ds : List Dt} (hp : PassesOwn (model X.prog X.w) X.A X.env X.xe) (hc : X.calm = true) (L : Ls X i x) (hi : IDM X E M (.Name x p') iter ds M1) (h : ForM X i body ds E M1 o) (hs : ∀ x, foldedSetIterable iter X.env x = pure x) :
    S1M X E M (.For (.Name x p') iter body [] pos) o := by
  refine ⟨h.ko.after hi.k, fun Hf σ H D s q m k => ⟨_, ps_for hp hc pi_u (pg_name L.nd L.n L.l L.f) pss_u hs, ?_⟩⟩
  refine hi.r Hf σ H s q m _ fun J Hf1 H1 f1 m1 it => ?_
  refine ⟨fun n mm σ' H' => mm = ds.length - n ∧ n ≤ ds.length ∧ ∃ E' M' Hf', keys M' = keys M ∧ FrM M Hf H Hf' H' ∧ Same Hf1 Hf' ∧ EnvR Hf' σ' E' ∧ MuR Hf' H' M' ∧ ForM X i body (ds.drop n) E' M' o,
    ⟨_, rfl, Nat.zero_le _, E, M1, Hf1, hi.k, f1, Same.refl _, q.mono f1.f, m1, by simpa using h⟩, ?_⟩
  rintro n mm σ' H' ⟨rfl, hn, E', M', Hf', hk, f', g', e', m', fo⟩
  have sH : Same Hf1 H' := g'.trans f'.s
  by_cases hz : n < ds.length
  · have hd : ds[n]? = some ds[n] := List.getElem?_eq_getElem hz
    have hdr : ds.drop n = ds[n] :: ds.drop (n + 1) := List.drop_eq_getElem_cons hz
    rw [hdr] at fo
    refine .inr ⟨it.1 n H' sH hz, fun σ2 H2 => ∃ E' M' Hf', keys M' = keys M ∧ FrM M Hf H Hf' H2 ∧ Same Hf1 Hf' ∧ EnvR Hf' σ2 E' ∧ MuR Hf' H2 M' ∧ ForM X i body (ds.drop (n + 1)) E' M' o, fun σ2 H2 q2 => ⟨ds.length - (n + 1), by omega, rfl, hz, q2⟩, fun x H2 y => ?_⟩
    obtain ⟨rfl, d', hd', ad⟩ := it.2.2 n H' x H2 sH hz y
    rw [hd] at hd'
    cases hd'
    obtain ⟨Hf2, fa, ra⟩ := ad Hf' g' f'.s
    have m2 := m'.fr2 fa
    have e2 : EnvR Hf2 (σ'.set i (some x)) (E'.set i (some ds[n])) := (e'.mono fa.f).set i ra
    have f2 := f'.trans fa.toM hk
    cases fo with
    | next hb fo' => exact hb.r Hf2 _ _ _ fa.s e2 m2 fun σ3 Hf3 H3 f3 e3 m3 => ⟨_, _, Hf3, Eq.trans hb.k hk, f2.trans f3 hk, (g'.trans fa.f).trans f3.f, e3, m3, fo'⟩
    | ret hb => exact hb.r Hf2 _ _ _ fa.s e2 m2 fun v Hf3 H3 f3 m3 r3 => k v Hf3 H3 (f2.trans f3 hk) m3 r3
  · have hdr : ds.drop n = [] := List.drop_eq_nil_of_le (by omega)
    rw [hdr] at fo
    cases fo
    exact .inl ⟨it.2.1 n H' sH (by omega), k σ' Hf' H' f' e' m'⟩
/-! ### while -/
inductive WhM (X : Cx) (c : Expr) (body : List Stmt) : En → Mu → OM → Prop
  | stop {E : En} {M M' : Mu} : TM X E M c false M' → WhM X c body E M (.nx E M')
  | turn {E E' : En} {M M1 M2 : Mu} {o : OM} : TM X E M c true M1 → SM X E M1 body (.nx E' M2) → WhM X c body E' M2 o → WhM X c body E M o
theorem WhM.ko {c : Expr} {body : List Stmt} (h : WhM X c body E M o) : KO M o := by
  induction h with
  | stop h => exact h.k
  | turn h1 h2 _ ih => exact ih.after (Eq.trans h2.k h1.k)
inductive WhN (X : Cx) (c : Expr) (body : List Stmt) : Nat → En → Mu → OM → Prop
  | stop {E : En} {M M' : Mu} : TM X E M c false M' → WhN X c body 0 E M (.nx E M')
  | turn {n : Nat} {E E' : En} {M M1 M2 : Mu} {o : OM} : TM X E M c true M1 → SM X E M1 body (.nx E' M2) → WhN X c body n E' M2 o → WhN X c body (n + 1) E M o
theorem WhM.n {c : Expr} {body : List Stmt} (h : WhM X c body E M o) : ∃ n, WhN X c body n E M o := by
  induction h with
  | stop h => exact ⟨0, .stop h⟩
  | turn h1 h2 _ ih => obtain ⟨n, ih⟩ := ih; exact ⟨n + 1, .turn h1 h2 ih⟩
theorem sm1_while {c : Expr} {body : List Stmt} (hp : PassesOwn (model X.prog X.w) X.A X.env X.xe) (h : WhM X c body E M o) : S1M X E M (.While c body [] pos) o := by
  refine ⟨h.ko, fun Hf σ H D s q m k => ⟨_, ps_while hp pt_u pss_u, ?_⟩⟩
  obtain ⟨n0, h0⟩ := h.n
  refine ⟨fun n σ' H' => ∃ E' M' Hf', keys M' = keys M ∧ FrM M Hf H Hf' H' ∧ EnvR Hf' σ' E' ∧ MuR Hf' H' M' ∧ WhN X c body n E' M' o, ⟨n0, E, M, Hf, rfl, FrM.refl s, q, m, h0⟩, ?_⟩
  rintro n σ' H' ⟨E', M', Hf', hk, f', e', m', w'⟩
  cases w' with
  | stop ht =>
    refine ht.r Hf' σ' H' f'.s e' m' _ fun Hf2 H2 f2 m2 => ?_
    rw [if_neg Bool.false_ne_true]
    exact k σ' Hf2 H2 (f'.trans f2 hk) (e'.mono f2.f) m2
  | @turn n1 _ _ _ _ _ _ ht hb w2 =>
    refine ht.r Hf' σ' H' f'.s e' m' _ fun Hf2 H2 f2 m2 => ?_
    rw [if_pos rfl]
    refine ⟨fun σ3 H3 => ∃ E' M' Hf', keys M' = keys M ∧ FrM M Hf H Hf' H3 ∧ EnvR Hf' σ3 E' ∧ MuR Hf' H3 M' ∧ WhN X c body n1 E' M' o, fun σ3 H3 q3 => ⟨n1, Nat.lt_succ_self _, q3⟩, ?_⟩
    exact hb.r Hf2 σ' H2 _ f2.s (e'.mono f2.f) m2 fun σ3 Hf3 H3 f3 e3 m3 => ⟨_, _, Hf3, (Eq.trans hb.k ht.k).trans hk, (f'.trans f2 hk).trans f3 (ht.k.trans hk), e3, m3, w2⟩
end
end Br

-- BrMu4
namespace Br
open PySem L2 PySem.Spec PyProof.Rows
/-! ### a dict is locked or not: the data stay -/
structure Sw (H H' : Hp) : Prop where
  a : ∀ a o, H a = some o → (∀ od u, o ≠ .frz od u) → (∀ k, o ≠ .dT k) → H' a = some o
  d : ∀ a kvs, Rd H a (.dT kvs) → Rd H' a (.dT kvs)
mutual
theorem Rep.sw {H H' : Hp} (k : Sw H H') : ∀ {v : V} {d : Dt}, Rep H v d → Rep H' v d
  | _, _, .non => .non
  | _, _, .bool b => .bool b
  | _, _, .int i => .int i
  | _, _, .tup h r => .tup (k.a _ _ h (fun _ _ z => nomatch z) (fun _ z => nomatch z)) (Reps.sw k r)
  | _, _, .lst h r => .lst (k.a _ _ h (fun _ _ z => nomatch z) (fun _ z => nomatch z)) (Reps.sw k r)
  | _, _, .dct h => .dct (k.d _ _ h)
  | _, _, .ob h e r => .ob (k.a _ _ h (fun _ _ z => nomatch z) (fun _ z => nomatch z)) e (Reps.sw k r)
  | _, _, .raw v => .raw v
theorem Reps.sw {H H' : Hp} (k : Sw H H') : ∀ {vs : List V} {ds : List Dt}, Reps H vs ds → Reps H' vs ds
  | _, _, .nil => .nil
  | _, _, .cons h r => .cons (h.sw k) (Reps.sw k r)
end
theorem EnvR.sw {Hf Hf' : Hp} {σ : L2.St} {E : En} (k : Sw Hf Hf') (e : EnvR Hf σ E) : EnvR Hf' σ E := ⟨e.len, fun i d h => let ⟨v, h1, h2⟩ := e.at_ i d h; ⟨v, h1, h2.sw k⟩⟩
theorem CR.sw {Hf H Hf' H' : Hp} {D : Addr} {c : Dt} (k : Sw Hf Hf') (e : H' D = H D) (h : CR Hf H D c) : CR Hf' H' D c := by
  cases c with
  | lst ds => obtain ⟨xs, q, r⟩ := h; exact ⟨xs, e.trans q, r.sw k⟩
  | dct ks => exact e.trans h
  | ob C ns ds => obtain ⟨_, _, q, n, r⟩ := h; exact ⟨_, _, e.trans q, n, r.sw k⟩
  | _ => exact h.elim
theorem sw_lock {H : Hp} {d : Addr} {od : Obj} {kvs : List (List Key × V)} (h : H d = some (.dT kvs)) : Sw H (upd H d (.frz od (.dT kvs))) := by
  refine ⟨fun a o e _ n => ?_, fun a k r => ?_⟩
  · rw [upd_ne fun z => by subst z; rw [h] at e; cases e; exact n _ rfl]; exact e
  · by_cases z : a = d
    · subst z
      rcases r with r | ⟨o, r⟩
      · rw [h] at r; cases r; exact .inr ⟨od, upd_same⟩
      · rw [h] at r; cases r
    · rcases r with r | ⟨o, r⟩
      · exact .inl (by rw [upd_ne z]; exact r)
      · exact .inr ⟨o, by rw [upd_ne z]; exact r⟩
theorem sw_open {H : Hp} {d : Addr} {od : Obj} {kvs : List (List Key × V)} (h : H d = some (.frz od (.dT kvs))) : Sw H (upd H d (.dT kvs)) := by
  refine ⟨fun a o e n _ => ?_, fun a k r => ?_⟩
  · rw [upd_ne fun z => by subst z; rw [h] at e; cases e; exact n _ _ rfl]; exact e
  · by_cases z : a = d
    · subst z
      rcases r with r | ⟨o, r⟩
      · rw [h] at r; cases r
      · rw [h] at r; cases r; exact .inl upd_same
    · rcases r with r | ⟨o, r⟩
      · exact .inl (by rw [upd_ne z]; exact r)
      · exact .inr ⟨o, by rw [upd_ne z]; exact r⟩
theorem MuR.sw {Hf H Hf' H' : Hp} {M : Mu} (k : Sw Hf Hf') (m : MuR Hf H M) (g : ∀ a, InM M a → Hf a = Option.none → Hf' a = Option.none ∧ H' a = H a) : MuR Hf' H' M := ⟨fun i D c h => by
  obtain ⟨n, r⟩ := m.at_ i D c h
  obtain ⟨g1, g2⟩ := g D ⟨i, c, h⟩ n
  exact ⟨g1, r.sw k g2⟩, m.nd⟩
theorem same_upd {Hf H : Hp} {d : Addr} {u : HO} (s : Same Hf H) : Same (upd Hf d u) (upd H d u) := fun a o e => by
  by_cases z : a = d
  · subst z; rw [upd_same] at e ⊢; exact e
  · rw [upd_ne z] at e ⊢; exact s _ _ e
section
variable {X : Cx} {E E' : En} {M M1 M2 M3 M' : Mu} {a b c : Expr} {pos : Pos} {da db dc : Dt} {i j : Int} {st : Stmt} {rest sts : List Stmt} {o : OM} {e : Expr} {d : Dt}
theorem for_core {i : Nat} {body : List Stmt} {ds : List Dt} {J : It} {Hf H : Hp} {σ : L2.St} {D : Ends} (s : Same Hf H) (q : EnvR Hf σ E) (m : MuR Hf H M) (it : ItOk J ds Hf) (h : ForM X i body ds E M o) (k : OutM M Hf H D o) :
    ∃ W : Nat → Nat → L2.St → Hp → Prop, (∃ m, W 0 m σ H) ∧ ∀ n m σ H, W n m σ H →
  (J.stop n H ∧ D.nx σ H) ∨ (J.go n H ∧ ∃ N : L2.St → Hp → Prop, (∀ σ' H', N σ' H' → ∃ m', m' < m ∧ W (n + 1) m' σ' H') ∧ ∀ x H', J.yld n H x H' → gName i x σ H' fun σ2 H2 => uS X body { D with nx := N, ct := N, bk := D.nx } σ2 H2) := by
  refine ⟨fun n mm σ' H' => mm = ds.length - n ∧ n ≤ ds.length ∧ ∃ E' M' Hf', keys M' = keys M ∧ FrM M Hf H Hf' H' ∧ Same Hf Hf' ∧ EnvR Hf' σ' E' ∧ MuR Hf' H' M' ∧ ForM X i body (ds.drop n) E' M' o,
    ⟨_, rfl, Nat.zero_le _, E, M, Hf, rfl, FrM.refl s, Same.refl _, q, m, by simpa using h⟩, ?_⟩
  rintro n mm σ' H' ⟨rfl, hn, E', M', Hf', hk, f', g', e', m', fo⟩
  have sH : Same Hf H' := g'.trans f'.s
  by_cases hz : n < ds.length
  · have hd : ds[n]? = some ds[n] := List.getElem?_eq_getElem hz
    have hdr : ds.drop n = ds[n] :: ds.drop (n + 1) := List.drop_eq_getElem_cons hz
    rw [hdr] at fo
    refine .inr ⟨it.1 n H' sH hz, fun σ2 H2 => ∃ E' M' Hf', keys M' = keys M ∧ FrM M Hf H Hf' H2 ∧ Same Hf Hf' ∧ EnvR Hf' σ2 E' ∧ MuR Hf' H2 M' ∧ ForM X i body (ds.drop (n + 1)) E' M' o, fun σ2 H2 q2 => ⟨ds.length - (n + 1), by omega, rfl, hz, q2⟩, fun x H2 y => ?_⟩
    obtain ⟨rfl, d', hd', ad⟩ := it.2.2 n H' x H2 sH hz y
    rw [hd] at hd'
    cases hd'
    obtain ⟨Hf2, fa, ra⟩ := ad Hf' g' f'.s
    have m2 := m'.fr2 fa
    have e2 : EnvR Hf2 (σ'.set i (some x)) (E'.set i (some ds[n])) := (e'.mono fa.f).set i ra
    have f2 := f'.trans fa.toM hk
    cases fo with
    | next hb fo' => exact hb.r Hf2 _ _ _ fa.s e2 m2 fun σ3 Hf3 H3 f3 e3 m3 => ⟨_, _, Hf3, Eq.trans hb.k hk, f2.trans f3 hk, (g'.trans fa.f).trans f3.f, e3, m3, fo'⟩
    | ret hb => exact hb.r Hf2 _ _ _ fa.s e2 m2 fun v Hf3 H3 f3 m3 r3 => k v Hf3 H3 (f2.trans f3 hk) m3 r3
  · have hdr : ds.drop n = [] := List.drop_eq_nil_of_le (by omega)
    rw [hdr] at fo
    cases fo
    exact .inl ⟨it.2.1 n H' sH (by omega), k σ' Hf' H' f' e' m'⟩
theorem itkt_ok {Hf1 : Hp} {d : Addr} {od : Obj} {ks : List (Int × Int)} (h : Hf1 d = some (.frz od (.dT (ks.map keyE)))) : ItOk (Itkt d od (ks.map keyE)) (ptsD ks) Hf1 := by
  refine ⟨fun n H s hn => ⟨s _ _ h, by rw [List.length_map] at hn ⊢; exact hn⟩, fun n H s hn => ⟨s _ _ h, by rw [List.length_map] at hn ⊢; exact hn⟩, fun n H x H' s hn y => ?_⟩
  obtain ⟨e1, k, v, p, hk, rfl, hp⟩ := y
  rw [List.getElem?_map] at hk
  cases hq : ks[n]? with
  | none => rw [hq] at hk; cases hk
  | some q =>
    rw [hq] at hk
    cases hk
    refine ⟨e1, pt q.1 q.2, by rw [List.getElem?_map, hq]; rfl, fun Hf s1 s2 => ⟨_, Fr2.adT s2 hp, .tup upd_same (.cons (.int _) (.cons (.int _) .nil))⟩⟩
/-- for name in a dict of points, a name's -/
theorem sm1_forK {x : Str} {p' : Pos} {i j : Nat} {y : Str} {p2 : Pos} {body : List Stmt} {ks : List (Int × Int)} (hp : PassesOwn (model X.prog X.w) X.A X.env X.xe) (hc : X.calm = true) (L : Ls X i x) (Y : Nm X j y) (hE : E[j]? = some (some (.dct ks))) (h : ForM X i body (ptsD ks) E M o)
    (hs : ∀ z, foldedSetIterable (.Name y p2) X.env z = pure z) : S1M X E M (.For (.Name x p') (.Name y p2) body [] pos) o := by
  have P1 := ps_for (tb := uS X body) (pos := pos) (tg := .Name x p') (iter := .Name y p2) hp hc (pi_keys (pe_var Y.n Y.v Y.d1 Y.d2)) (pg_name L.nd L.n L.l L.f) (pss_u (sts := body)) hs
  refine ⟨h.ko, fun Hf σ H D s q m k => ?_⟩
  obtain ⟨v, hv, rv⟩ := q.at_ j _ hE
  cases rv with
  | @dct d _ hd =>
    rcases hd with hd | ⟨od, hd⟩
    · refine ⟨_, ps_lock P1, d, _, s _ _ hd, trivial, fun od => ?_⟩
      have w1 := sw_lock (od := od) hd
      have s1 : Same (upd Hf d (.frz od (.dT (ks.map keyE)))) (upd H d (.frz od (.dT (ks.map keyE)))) := same_upd s
      have nd : ∀ a, InM M a → Hf a = Option.none → a ≠ d := fun a _ n z => by subst z; rw [hd] at n; cases n
      have m1 : MuR (upd Hf d (.frz od (.dT (ks.map keyE)))) (upd H d (.frz od (.dT (ks.map keyE)))) M := m.sw w1 fun a ha n => ⟨by rw [upd_ne (nd a ha n)]; exact n, upd_ne (nd a ha n)⟩
      refine ⟨.ref d, hv, d, od, rfl, .inr ⟨_, upd_same, for_core s1 (q.sw w1) m1 (itkt_ok upd_same) h ?_⟩⟩
      have key : ∀ Hf' H', FrM M (upd Hf d (.frz od (.dT (ks.map keyE)))) (upd H d (.frz od (.dT (ks.map keyE)))) Hf' H' → Hf' d = some (.frz od (.dT (ks.map keyE))) ∧ FrM M Hf H (upd Hf' d (.dT (ks.map keyE))) (upd H' d (.dT (ks.map keyE))) := fun Hf' H' f' => by
        have hd' := f'.f _ _ (upd_same (H := Hf) (a := d) (o := .frz od (.dT (ks.map keyE))))
        refine ⟨hd', ⟨fun a u e => ?_, same_upd f'.s, fun a u hm e => ?_, fun a u e => ?_, fun a u hm e t n => ?_⟩⟩
        · by_cases z : a = d
          · subst z; rw [hd] at e; cases e; exact upd_same
          · rw [upd_ne z]; exact f'.f a u (by rw [upd_ne z]; exact e)
        · by_cases z : a = d
          · subst z; rw [s _ _ hd] at e; cases e; exact upd_same
          · rw [upd_ne z]; exact f'.h a u hm (by rw [upd_ne z]; exact e)
        · by_cases z : a = d
          · subst z; exact ⟨_, upd_same⟩
          · obtain ⟨o', e'⟩ := f'.t a u (by rw [upd_ne z]; exact e)
            exact ⟨o', by rw [upd_ne z]; exact e'⟩
        · have z : a ≠ d := fun z => by subst z; rw [hd] at n; cases n
          rw [upd_ne z]
          exact f'.n a u hm (by rw [upd_ne z]; exact e) t (by rw [upd_ne z]; exact n)
      have mu : ∀ Hf' H' M', Hf' d = some (.frz od (.dT (ks.map keyE))) → MuR Hf' H' M' → MuR (upd Hf' d (.dT (ks.map keyE))) (upd H' d (.dT (ks.map keyE))) M' := fun Hf' H' M' hd' m' => m'.sw (sw_open hd') fun a ha n => by
        have z : a ≠ d := fun z => by subst z; rw [hd'] at n; cases n
        exact ⟨by rw [upd_ne z]; exact n, upd_ne z⟩
      cases o with
      | nx E' M' => exact fun σ' Hf' H' f' e' m' => let ⟨hd', F⟩ := key Hf' H' f'; ⟨f'.s _ _ hd', k σ' _ _ F (e'.sw (sw_open hd')) (mu _ _ _ hd' m')⟩
      | rt d' M' => exact fun v Hf' H' f' m' r' => let ⟨hd', F⟩ := key Hf' H' f'; ⟨f'.s _ _ hd', k v _ _ F (mu _ _ _ hd' m') (r'.sw (sw_open hd'))⟩
    · exact ⟨_, P1, .ref d, hv, d, od, rfl, .inr ⟨_, s _ _ hd, for_core s q m (itkt_ok hd) h k⟩⟩
end
/-! ### calls of defs that change own objects -/
theorem inM_snoc {M : Mu} {D D2 : Addr} {c : Dt} (h : InM (M ++ [(D, c)]) D2) : InM M D2 ∨ D2 = D := by
  obtain ⟨n, c', h⟩ := h
  by_cases hl : n < M.length
  · rw [List.getElem?_append_left hl] at h
    exact .inl ⟨n, c', h⟩
  · rw [List.getElem?_append_right (by omega)] at h
    have z := (List.getElem?_eq_some_iff.mp h).1
    simp only [List.length_cons, List.length_nil] at z
    have z0 : n - M.length = 0 := by omega
    rw [z0] at h
    cases h
    exact .inr rfl
def spM (n : Nat) (R : List Dt → Mu → Dt → Mu → Prop) : Sp := fun vs H Q _ => ∃ Hf ds M d M', Same Hf H ∧ Reps Hf vs ds ∧ MuR Hf H M ∧ ds.length = n ∧ R ds M d M' ∧ keys M' = keys M ∧ ∀ v Hf' H', FrM M Hf H Hf' H' → MuR Hf' H' M' → Rep Hf' v d → Q v H'
section
variable {X : Cx} {E E' : En} {M M1 M2 M3 M' : Mu} {a b c : Expr} {pos : Pos} {da db dc : Dt} {i j : Int} {st : Stmt} {rest sts : List Stmt} {o : OM} {e : Expr} {d : Dt}
structure GfM (X : Cx) (x : Str) (n : Nat) (R : List Dt → Mu → Dt → Mu → Prop) : Prop where
  ok : ∃ k, Fn X.prog X.w X.K X.mg X.base k x n (spM n R) ∧ Room k X.A
  g : Gl X x
  d : (x == ("__debug__" : Str)) = false
theorem fr_app {Mc Mr Mc' : Mu} {Hf H Hf' H' : Hp} (m : MuR Hf H (Mc ++ Mr)) (f : FrM Mc Hf H Hf' H') (m' : MuR Hf' H' Mc') (hk : keys Mc' = keys Mc) : MuR Hf' H' (Mc' ++ Mr) :=
  m'.app (m.right.rest f m.apart) fun D h1 h2 => m.apart D h1 (inM_of hk h2)
theorem dm_call {es : List Expr} {p : Pos} {n : Nat} {x : Str} {R : List Dt → Mu → Dt → Mu → Prop} {ds : List Dt} {Mc Mr Mc' : Mu} (G : GfM X x n R) (ha : AM X E M (a :: es) ds (Mc ++ Mr)) (hR : R ds Mc d Mc') (hk : keys Mc' = keys Mc) (hl : ds.length = n)
    (he : starEach (a :: es) X.env = (false, eval a X.env) :: starEach es X.env) (hpl : (backTo pos (starEach es X.env)).any (·.1) = false) : DM X E M (.Call (.Name x p) (a :: es) [] pos) d (Mc' ++ Mr) := by
  obtain ⟨k, ⟨⟨f, fd, ps, F, hm, kp, b, _⟩⟩, hr⟩ := G.ok
  refine dm_of (pe_call (ds := []) (dvs := []) (E := E0) F hr G.g hm kp b .nil pass0 pa_u G.d he hpl) ((keys_app hk).trans ha.k) fun Hf σ H s q m Q k => ?_
  refine ha.r Hf σ H s q m _ fun vs Hf1 H1 f1 m1 rs => ?_
  rw [List.append_nil]
  exact ⟨Hf1, ds, Mc, d, Mc', f1.s, rs, m1.left, hl, hR, hk, fun v Hf2 H2 f2 m2 r2 => k v Hf2 H2 (f1.trans f2.wide ha.k) (fr_app m1 f2 m2 hk) r2⟩
theorem dm_callD {es : List Expr} {p : Pos} {n : Nat} {x : Str} {R : List Dt → Dt → Prop} {ds : List Dt} (G : Gf X x n R) (ha : AM X E M (a :: es) ds M1) (hR : R ds d) (hl : ds.length = n)
    (he : starEach (a :: es) X.env = (false, eval a X.env) :: starEach es X.env) (hpl : (backTo pos (starEach es X.env)).any (·.1) = false) : DM X E M (.Call (.Name x p) (a :: es) [] pos) d M1 := by
  obtain ⟨k, ⟨⟨f, fd, ps, F, hm, kp, b, _⟩⟩, hr⟩ := G.ok
  refine dm_of (pe_call (ds := []) (dvs := []) (E := E0) F hr G.g hm kp b .nil pass0 pa_u G.d he hpl) ha.k fun Hf σ H s q m Q k => ?_
  refine ha.r Hf σ H s q m _ fun vs Hf1 H1 f1 m1 rs => ?_
  rw [List.append_nil]
  exact ⟨Hf1, ds, d, f1.s, rs, hl, hR, fun v Hf2 H2 f2 r2 => k v Hf2 H2 (f1.trans f2.toM ha.k) (m1.fr2 f2) r2⟩
end
section
variable {P : Program} {w : World} {K : PySem.W.Frag} {mg : Str → Option Value} {base : Heap} {N : List Str} {st : Stmt} {k : Nat} {X : Cx}
theorem Bx.gm {j n : Nat} {x : Str} {R : List Dt → Mu → Dt → Mu → Prop} (b : Bx P w K mg base N st k X) (F : Fn P w K mg base j x n (spM n R)) (hj : j ≤ k) (h : (defScope st).names.lookup x = some .globalImplicit) (d : (x == ("__debug__" : Str)) = false) : GfM X x n R := ⟨⟨j, b.fn_ F, b.room.mono hj⟩, b.gl h, d⟩
theorem Blk.gm {j n : Nat} {c : Cx} {scope : Scope} {x : Str} {R : List Dt → Mu → Dt → Mu → Prop} (cb : Blk X scope c) (b : Bx P w K mg base N st k X) (F : Fn P w K mg base j x n (spM n R)) (hj : j ≤ k)
    (h : (relS scope (defScope st)).names.lookup x = some .globalImplicit) (d : (x == ("__debug__" : Str)) = false) : GfM c x n R := by
  have gl := cb.gl (x := x) (by rw [b.sc]; exact h)
  have F' := b.fn_ F
  have hr := b.room
  obtain ⟨s, H, C, cl, fp, rfl⟩ := cb.eq
  exact ⟨⟨j, F', hr.mono hj⟩, gl, d⟩
theorem fn_okM {x qual : Str} {f : Addr} {fd : FuncData} {ps : List Str} {R : List Dt → Mu → Dt → Mu → Prop} (F : Fun K x qual st f fd) (S : FnScope N ps (defScope st)) (hle : ps.length ≤ N.length)
    (h : ∀ (X : Cx), Bx P w K mg base N st k X → ∀ ds M d M', ds.length = ps.length → R ds M d M' → SM X (startE N.length ds) M (defBody st) (.rt d M')) : FnOk P w K mg base CX0 (k + 1) f fd ps (spM ps.length R) := by
  refine F.ok S (fun vs H Q E h => ?_) (fun cdv A outer s H vs Q E hr hsp => ?_)
  · obtain ⟨_, ds, _, _, _, _, r, _, hl, _⟩ := h
    rw [r.length, hl]
  · obtain ⟨Hf, ds, M, d, M', hs, r, m, hl, hR, hk, q⟩ := hsp
    exact ⟨_, pss_u, (h _ ⟨⟨qual, f, cdv, A, outer, s, H, E, rfl⟩, S.nd, hr⟩ ds M d M' hl hR).r Hf _ H _ hs (reps_env r N (by omega)) m q⟩
/-- .. that ends behind its last statement -/
theorem fn_okMN {x qual : Str} {f : Addr} {fd : FuncData} {ps : List Str} {R : List Dt → Mu → Dt → Mu → Prop} (F : Fun K x qual st f fd) (S : FnScope N ps (defScope st)) (hle : ps.length ≤ N.length)
    (h : ∀ (X : Cx), Bx P w K mg base N st k X → ∀ ds M d M', ds.length = ps.length → R ds M d M' → d = .non ∧ ∃ Eo, SM X (startE N.length ds) M (defBody st) (.nx Eo M')) : FnOk P w K mg base CX0 (k + 1) f fd ps (spM ps.length R) := by
  refine F.ok S (fun vs H Q E h => ?_) (fun cdv A outer s H vs Q E hr hsp => ?_)
  · obtain ⟨_, ds, _, _, _, _, r, _, hl, _⟩ := h
    rw [r.length, hl]
  · obtain ⟨Hf, ds, M, d, M', hs, r, m, hl, hR, hk, q⟩ := hsp
    obtain ⟨rfl, Eo, hS⟩ := h _ ⟨⟨qual, f, cdv, A, outer, s, H, E, rfl⟩, S.nd, hr⟩ ds M d M' hl hR
    exact ⟨_, pss_u, hS.r Hf _ H _ hs (reps_env r N (by omega)) m fun σ' Hf' H' f' _ m' => q .non Hf' H' f' m' .non⟩
/-- a def that is worth a datum, by statements that change objects of its own -/
theorem fn_okS {x qual : Str} {f : Addr} {fd : FuncData} {ps : List Str} {R : List Dt → Dt → Prop} (F : Fun K x qual st f fd) (S : FnScope N ps (defScope st)) (hle : ps.length ≤ N.length)
    (h : ∀ (X : Cx), Bx P w K mg base N st k X → ∀ ds d, ds.length = ps.length → R ds d → SM X (startE N.length ds) [] (defBody st) (.rt d [])) : FnOk P w K mg base CX0 (k + 1) f fd ps (spD ps.length R) := by
  refine F.ok S (fun vs H Q E h => ?_) (fun cdv A outer s H vs Q E hr hsp => ?_)
  · obtain ⟨_, ds, _, _, r, hl, _⟩ := h
    rw [r.length, hl]
  · obtain ⟨Hf, ds, d, hs, r, hl, hR, q⟩ := hsp
    exact ⟨_, pss_u, (h _ ⟨⟨qual, f, cdv, A, outer, s, H, E, rfl⟩, S.nd, hr⟩ ds d hl hR).r Hf _ H _ hs (reps_env r N (by omega)) muR_nil fun v Hf' H' f' _ rv => q v Hf' H' (f'.two (M := [])) rv⟩
end
/-! ### [elt for x in iter if ..] with own objects changed on the way -/
inductive IfM (C : Cx → Prop) (E : En) (M : Mu) : List Expr → Bool → Mu → Prop
  | nil : IfM C E M [] true M
  | one {e : Expr} {b : Bool} {M1 : Mu} (h : ∀ c, C c → TM c E M e b M1) (hk : keys M1 = keys M) : IfM C E M [e] b M1
theorem IfM.k {C : Cx → Prop} {E : En} {M M1 : Mu} {es : List Expr} {b : Bool} (h : IfM C E M es b M1) : keys M1 = keys M := by
  cases h with
  | nil => rfl
  | one _ hk => exact hk
inductive LcM (C : Cx → Prop) (E : En) (i : Nat) (ifs : List Expr) (elt : Expr) : List Dt → Mu → List Dt → Mu → Prop
  | nil {M : Mu} : LcM C E i ifs elt [] M [] M
  | keep {d y : Dt} {ds ys : List Dt} {M M1 M2 M3 : Mu} : IfM C (E.set i (some d)) M ifs true M1 → (∀ c, C c → DM c (E.set i (some d)) M1 elt y M2) → keys M2 = keys M1 → LcM C E i ifs elt ds M2 ys M3 → LcM C E i ifs elt (d :: ds) M (y :: ys) M3
  | drop {d : Dt} {ds ys : List Dt} {M M1 M3 : Mu} : IfM C (E.set i (some d)) M ifs false M1 → LcM C E i ifs elt ds M1 ys M3 → LcM C E i ifs elt (d :: ds) M ys M3
theorem LcM.len {C : Cx → Prop} {E : En} {i : Nat} {ifs : List Expr} {elt : Expr} {ds ys : List Dt} {M M' : Mu} (h : LcM C E i ifs elt ds M ys M') : ys.length ≤ ds.length := by
  induction h with
  | nil => exact Nat.le_refl _
  | keep _ _ _ _ ih => simpa using ih
  | drop _ _ ih => exact Nat.le_succ_of_le ih
theorem LcM.ko {C : Cx → Prop} {E : En} {i : Nat} {ifs : List Expr} {elt : Expr} {ds ys : List Dt} {M M' : Mu} (h : LcM C E i ifs elt ds M ys M') : keys M' = keys M := by
  induction h with
  | nil => rfl
  | keep h1 _ h3 _ ih => exact ih.trans (h3.trans h1.k)
  | drop h1 _ ih => exact ih.trans h1.k
def cE (C : Cx → Prop) (e : Expr) : TE := fun σ H Q => ∀ c, C c → uE c e σ H Q
theorem pe_cE {C : Cx → Prop} {e : Expr} {c : Cx} (h : C c) : PE c e (cE C e) := ⟨fun pins s σ H Q I k => by
  obtain ⟨t, p, r⟩ := k c h
  exact p.run pins s σ H Q I r⟩
def cTs (C : Cx → Prop) : List Expr → TT
  | [e] => fun σ H Q => ∀ c, C c → uT c e σ H Q
  | _ => tYes
theorem pts_cTs {C : Cx → Prop} {ifs : List Expr} (hl : ifs.length ≤ 1) {c : Cx} (h : C c) : PTs c ifs (cTs C ifs) := by
  match ifs, hl with
  | [], _ => exact pts_nil
  | [e], _ => exact pts_one ⟨fun pins s σ H Q I k => by
      obtain ⟨t, p, r⟩ := k c h
      exact p.run pins s σ H Q I r⟩
section
variable {X : Cx} {E E' : En} {M M1 M2 M3 M' : Mu} {pos p : Pos} {elt iter : Expr} {ifs : List Expr} {scope : Scope} {x : Str} {i : Nat} {ds ys : List Dt}
theorem dm_lc (hc : X.calm = true) (hN : X.N.Nodup) (ok : BlkOk X.N X.env.scope scope [(x, i)]) (hg : ∀ (s : Shared) (H : Hp) (C : Addr) (cl : List (Str × Addr)) (fp : List Addr), PG (X.blk s H scope (compEnvC scope cl C X.env) fp) (.Name x p) (gName i))
    (hl : ifs.length ≤ 1) (hs : ∀ x, foldedSetIterable iter X.env x = pure x) (ha : IDM X E M (.Name x p) iter ds M1) (hz : ds.length < sizeLine) (h : LcM (Blk X scope) (wipeE E [i]) i ifs elt ds M1 ys M2) :
    DM X E M (.ListComp elt [⟨.Name x p, iter, ifs, 0⟩] scope pos) (.lst ys) M2 := by
  refine dm_of (pe_lc (own := [(x, i)]) (tt := cTs (Blk X scope) ifs) (te := cE (Blk X scope) elt) hc hN pi_u ok hg (fun s H C cl fp => pts_cTs hl ⟨s, H, C, cl, fp, rfl⟩) (fun s H C cl fp => pe_cE ⟨s, H, C, cl, fp, rfl⟩) hs) (h.ko.trans ha.k) fun Hf σ H s e m Q q => ?_
  refine ha.r Hf σ H s e m _ fun J Hf1 H1 f1 m1 it D hD => ?_
  refine ⟨fun n mm H' => mm = ds.length - n ∧ n ≤ ds.length ∧ ∃ M' Hf' acc rs, keys M' = keys M1 ∧ FrM M1 Hf1 H1 Hf' H' ∧ MuR Hf' H' (M' ++ [(D, .lst acc)]) ∧ LcM (Blk X scope) (wipeE E [i]) i ifs elt (ds.drop n) M' rs M2 ∧ acc ++ rs = ys,
    ⟨_, rfl, Nat.zero_le _, M1, Hf1, [], ys, rfl, (Fr2.own f1.s hD _).toM, m1.new (c := .lst []) f1.s hD ⟨_, upd_same, .nil⟩, by simpa using h, rfl⟩, ?_⟩
  rintro n mm H' ⟨rfl, hn, M', Hf', acc, rs, hk, f', m', lc, hys⟩
  have lastG : (M' ++ [(D, Dt.lst acc)])[M'.length]? = some (D, .lst acc) := by rw [List.getElem?_append_right (Nat.le_refl _), Nat.sub_self]; rfl
  have sH : Same Hf1 H' := f'.f.trans f'.s
  by_cases hz' : n < ds.length
  · have hd : ds[n]? = some ds[n] := List.getElem?_eq_getElem hz'
    have hdr : ds.drop n = ds[n] :: ds.drop (n + 1) := List.drop_eq_getElem_cons hz'
    rw [hdr] at lc
    refine .inr ⟨it.1 n H' sH hz', fun H2 => ∃ M' Hf' acc rs, keys M' = keys M1 ∧ FrM M1 Hf1 H1 Hf' H2 ∧ MuR Hf' H2 (M' ++ [(D, .lst acc)]) ∧ LcM (Blk X scope) (wipeE E [i]) i ifs elt (ds.drop (n + 1)) M' rs M2 ∧ acc ++ rs = ys, fun H2 q2 => ⟨ds.length - (n + 1), by omega, rfl, hz', q2⟩, fun v H2 y => ?_⟩
    obtain ⟨rfl, d', hd', ad⟩ := it.2.2 n H' v H2 sH hz' y
    rw [hd] at hd'
    cases hd'
    obtain ⟨Hf2, fa, ra⟩ := ad Hf' f'.f f'.s
    have m2 := m'.fr2 fa
    have f2 := f'.trans (M1 := M') fa.toM hk
    have e2 : EnvR Hf2 ((wipe σ [i]).set i (some v)) ((wipeE E [i]).set i (some ds[n])) := ((((e.mono f1.f).mono f'.f).mono fa.f).wipe [i]).set i ra
    refine ⟨wipe1 _, ?_⟩
    have tst : ∀ b M3, IfM (Blk X scope) ((wipeE E [i]).set i (some ds[n])) M' ifs b M3 → ∀ R : Bool → Hp → Prop, (∀ Hf3 H3, FrM M1 Hf1 H1 Hf3 H3 → Same Hf2 Hf3 → keys M3 = keys M1 → MuR Hf3 H3 (M3 ++ [(D, .lst acc)]) → R b H3) → cTs (Blk X scope) ifs ((wipe σ [i]).set i (some v)) H2 R := fun b M3 hi R hR => by
      cases hi with
      | nil => exact hR Hf2 _ f2 (Same.refl _) hk m2
      | one h1 hk1 => exact fun c hc' => (h1 c hc').r Hf2 _ _ fa.s e2 m2.left R fun Hf3 H3 f3 m3 => hR Hf3 H3 (f2.trans f3 hk) f3.f (hk1.trans hk) (fr_app m2 f3 m3 hk1)
    cases lc with
    | keep hi he hk2 lc' =>
      refine tst _ _ hi _ fun Hf3 H3 f3 s3 hk3 m3 => ?_
      rw [if_pos rfl]
      intro c hc'
      refine (he c hc').r Hf3 _ H3 f3.s (e2.mono s3) m3.left _ fun yv Hf4 H4 f4 m4 r4 => ?_
      have m5 := fr_app m3 f4 m4 hk2
      have l5 : ∀ M' : Mu, (M' ++ [(D, Dt.lst acc)])[M'.length]? = some (D, .lst acc) := fun M' => by rw [List.getElem?_append_right (Nat.le_refl _), Nat.sub_self]; rfl
      obtain ⟨xs, e5, r5⟩ := m5.get (l5 _)
      have f5 := f3.trans f4 hk3
      have hal : acc.length < sizeLine := by
        have h1 := h.len
        have h2 := congrArg List.length hys
        rw [List.length_append, List.length_cons] at h2
        omega
      refine ⟨xs, e5, by rw [r5.length]; exact hal, _, Hf4, acc ++ [_], _, hk2.trans hk3, ?_, ?_, lc', by rw [← hys, List.append_assoc]; rfl⟩
      · exact f5.trans' (FrM.put f4.s m5 (l5 _)) fun D2 h2 => (inM_snoc h2).elim (fun z => .inl (inM_of (hk2.trans hk3) z)) fun z => .inr (by rw [z]; exact hD)
      · have := m5.set (l5 _) (o := .lst (xs ++ [yv])) (c' := .lst (acc ++ [_])) ⟨_, upd_same, r5.snoc r4⟩
        rw [List.set_append_right _ _ (Nat.le_refl _), Nat.sub_self] at this
        exact this
    | drop hi lc' =>
      refine tst _ _ hi _ fun Hf3 H3 f3 s3 hk3 m3 => ?_
      rw [if_neg Bool.false_ne_true]
      exact ⟨_, Hf3, acc, _, hk3, f3, m3, lc', hys⟩
  · have hdr : ds.drop n = [] := List.drop_eq_nil_of_le (by omega)
    rw [hdr] at lc
    cases lc
    rw [List.append_nil] at hys
    subst hys
    obtain ⟨Hf3, rr, g1, g2, m3, g3⟩ := m'.adopt f'.s
    refine .inl ⟨it.2.1 n H' sH (by omega), q _ Hf3 H' (f1.trans ⟨f'.f.trans g1, g2, f'.h, f'.t, fun a o hm e t n => ?_⟩ ha.k) m3 rr⟩
    rw [g3 a fun z => by subst z; rw [hD] at e; cases e]
    exact f'.n a o hm e t n
end
end Br

-- BrMu5
namespace Br
open PySem L2 PySem.Spec PyProof.Rows
/-! ### == and in of points and lists of points -/
def pyP (q : Int × Int) : PyData := .tuple [.int q.1, .int q.2]
theorem pyP_eqv (p q : Int × Int) : PyData.eqv (pyP p) (pyP q) = decide (p = q) := by
  obtain ⟨a, b⟩ := p
  obtain ⟨c, d⟩ := q
  have e : PyData.eqv (pyP (a, b)) (pyP (c, d)) = ((a == c) && ((b == d) && true)) := by simp only [pyP, PyData.eqv, PyData.eqvAll]
  rw [e, Bool.eq_iff_iff]
  simp
theorem pyP_all : ∀ ps qs : List (Int × Int), PyData.eqvAll (ps.map pyP) (qs.map pyP) = decide (ps = qs)
  | [], [] => by simp [PyData.eqvAll]
  | [], q :: qs => by simp [PyData.eqvAll]
  | p :: ps, [] => by simp [PyData.eqvAll]
  | p :: ps, q :: qs => by
    rw [List.map_cons, List.map_cons]
    simp only [PyData.eqvAll]
    rw [pyP_eqv, pyP_all ps qs, Bool.eq_iff_iff]
    simp
theorem pyP_lay (q : Int × Int) : (pyP q).canLay0 = true := by simp [pyP, PyData.canLay0, PyData.canLayAll0]
theorem pyP_depth (q : Int × Int) : (pyP q).depth ≤ 3 := by simp [pyP, PyData.depth, PyData.depthAll]
theorem pyPs_lay : ∀ ps : List (Int × Int), PyData.canLayAll0 (ps.map pyP) = true
  | [] => by simp [PyData.canLayAll0]
  | p :: ps => by rw [List.map_cons]; simp only [PyData.canLayAll0]; rw [pyP_lay, pyPs_lay ps]; rfl
theorem pyPs_depth : ∀ ps : List (Int × Int), PyData.depthAll (ps.map pyP) ≤ 3
  | [] => by simp [PyData.depthAll]
  | p :: ps => by
    have h1 := pyPs_depth ps
    have h2 := pyP_depth p
    simp only [List.map_cons, PyData.depthAll]
    omega
theorem pyP_sh (q : Int × Int) : SeqAt.shaped (pyP q) = true := by
  have h := pyP_depth q
  show ((pyP q).canLay0 && decide ((pyP q).depth ≤ 64)) = true
  rw [Bool.and_eq_true]
  exact ⟨pyP_lay q, decide_eq_true (by omega)⟩
theorem pyPs_sh (ps : List (Int × Int)) : SeqAt.shaped (.list (ps.map pyP)) = true := by
  have h1 := pyPs_depth ps
  have h2 : PyData.depth (.list (ps.map pyP)) ≤ 64 := by
    simp only [PyData.depth]
    omega
  show (PyData.canLay0 (.list (ps.map pyP)) && decide (PyData.depth (.list (ps.map pyP)) ≤ 64)) = true
  rw [Bool.and_eq_true]
  exact ⟨by simp only [PyData.canLay0]; exact pyPs_lay ps, decide_eq_true h2⟩
theorem dp_pt {K : PySem.W.Frag} {Hf H : Hp} {v : V} {x y : Int} (s : Same Hf H) (r : Rep Hf v (pt x y)) : Dp K H v (pyP (x, y)) := by
  cases r with
  | tup h r =>
    obtain ⟨v1, v2, rfl, h1, h2⟩ := reps2 r
    cases h1
    cases h2
    exact .tup (SqT.of (s _ _ h)) (.cons (.int _) (.cons (.int _) .nil))
theorem dp_pts {K : PySem.W.Frag} {Hf H : Hp} (s : Same Hf H) : ∀ {ps : List (Int × Int)} {vs : List V}, Reps Hf vs (ptsD ps) → DpAll K H vs (ps.map pyP)
  | [], _, .nil => .nil
  | p :: ps, _, .cons h r => .cons (dp_pt s h) (dp_pts s r)
theorem dp_lst {K : PySem.W.Frag} {Hf H : Hp} {v : V} {ps : List (Int × Int)} (s : Same Hf H) (r : Rep Hf v (.lst (ptsD ps))) : Dp K H v (.list (ps.map pyP)) := by
  cases r with
  | lst h r => exact .lst (SqL.of (s _ _ h)) (dp_pts s r)
section
variable {X : Cx} {E E' : En} {M M1 M2 M3 M' : Mu} {a b c : Expr} {pos : Pos} {da db dc : Dt} {i j : Int} {st : Stmt} {rest sts : List Stmt} {o : OM} {e : Expr} {d : Dt} {x y u v : Int}
theorem ev_eqP {ta tb : TE} (ha : Ev ta E (pt x y)) (hb : Ev tb E (pt u v)) : Ev (tOp (rEqD X.K) ta tb) E (.bool (decide (x = u ∧ y = v))) :=
  ev_two ha hb fun Hf H p q Q s rp rq k => ⟨_, _, dp_pt s rp, dp_pt s rq, pyP_sh _, pyP_sh _, by
    rw [pyP_eqv, show decide ((x, y) = (u, v)) = decide (x = u ∧ y = v) by simp only [Prod.mk.injEq]]
    exact ev_now s (.bool _) k⟩
theorem dt_eqP (hu : X.A.units + 64 < cLine) (ha : DE X E a (pt x y)) (hb : DE X E b (pt u v)) : DT X E (.Compare a [.Eq] [b] pos) (decide (x = u ∧ y = v)) :=
  let ⟨_, p1, r1⟩ := ha; let ⟨_, p2, r2⟩ := hb; ⟨_, pt_cmpR (op_eqD hu) p1 p2 (nomark _), evT_test (ev_eqP r1 r2)⟩
theorem de_eqL {ps qs : List (Int × Int)} (hu : X.A.units + 64 < cLine) (ha : DE X E a (.lst (ptsD ps))) (hb : DE X E b (.lst (ptsD qs))) : DE X E (.Compare a [.Eq] [b] pos) (.bool (decide (ps = qs))) :=
  let ⟨_, p1, r1⟩ := ha; let ⟨_, p2, r2⟩ := hb; ⟨_, pe_cmpR (op_eqD hu) p1 p2 (nomark _), ev_two r1 r2 fun Hf H p q Q s rp rq k => ⟨_, _, dp_lst s rp, dp_lst s rq, pyPs_sh _, pyPs_sh _, by
    show Q (.bl (PyData.eqvAll _ _)) H
    rw [pyP_all]
    exact ev_now s (.bool _) k⟩⟩
theorem any_pyP (ps : List (Int × Int)) (q : Int × Int) : ((ps.map pyP).any fun z => PyData.eqv z (pyP q)) = decide (q ∈ ps) := by
  rw [Bool.eq_iff_iff, List.any_eq_true, decide_eq_true_eq]
  constructor
  · rintro ⟨z, hz, h⟩
    obtain ⟨p, hp, rfl⟩ := List.mem_map.mp hz
    rw [pyP_eqv, decide_eq_true_eq] at h
    rw [← h]; exact hp
  · intro h
    exact ⟨_, List.mem_map_of_mem h, by rw [pyP_eqv]; exact decide_eq_true rfl⟩
theorem ev_inL {ta tb : TE} {ps : List (Int × Int)} (ha : Ev ta E (pt x y)) (hb : Ev tb E (.lst (ptsD ps))) : Ev (tOp (rInD X.K) ta tb) E (.bool (decide ((x, y) ∈ ps))) :=
  ev_two ha hb fun Hf H p q Q s rp rq k => ⟨_, _, dp_pt s rp, dp_lst s rq, pyP_sh _, pyPs_sh _, by
    rw [any_pyP]
    exact ev_now s (.bool _) k⟩
theorem dt_inL {ps : List (Int × Int)} (hu : X.A.units + 65 < cLine) (ha : DE X E a (pt x y)) (hb : DE X E b (.lst (ptsD ps))) (hm : behindInMarks .In b = false) : DT X E (.Compare a [.In] [b] pos) (decide ((x, y) ∈ ps)) :=
  let ⟨_, p1, r1⟩ := ha; let ⟨_, p2, r2⟩ := hb; ⟨_, pt_cmpR (op_inD hu) p1 p2 hm, evT_test (ev_inL r1 r2)⟩
def optD : Option (Int × Int) → Dt
  | some p => pt p.1 p.2
  | Option.none => .non
def optIn (ks : List (Int × Int)) : Option (Int × Int) → Bool
  | some p => decide (p ∈ ks)
  | Option.none => false
/-- x in a dict of points, x a point or None -/
theorem dt_inN {ks : List (Int × Int)} {q : Option (Int × Int)} (hu : X.A.units + 1 < cLine) (ha : DE X E a (optD q)) (hb : DE X E b (.dct ks)) (hm : behindInMarks .In b = false) :
    DT X E (.Compare a [.In] [b] pos) (optIn ks q) := by
  obtain ⟨_, p1, r1⟩ := ha
  obtain ⟨_, p2, r2⟩ := hb
  refine ⟨_, pt_cmp (br_pc_inN hu p1 p2) hm, evT_test fun Hf σ H s e Q k => ?_⟩
  refine r1 Hf σ H s e _ fun v Hf1 H1 f1 r1 => r2 Hf1 σ H1 f1.s (e.mono f1.f) _ fun w Hf2 H2 f2 r2 => ?_
  cases r2 with
  | dct h =>
    cases q with
    | none =>
      cases r1
      exact .inr ⟨_, _, rfl, rfl, h.same f2.s, k _ Hf2 H2 (f1.trans f2) (.bool _)⟩
    | some p =>
      obtain ⟨b', rfl, hb'⟩ := rep_pt (x := p.1) (y := p.2) f2.s (r1.fr f2)
      exact .inl ⟨_, _, rfl, .inr ⟨_, [Sum.inl p.1, Sum.inl p.2], b', h.same f2.s, rfl, hb', rfl⟩, by rw [valV_keyE ks p]; exact k _ Hf2 H2 (f1.trans f2) (.bool _)⟩
/-! ### sorted -/
def leP (p q : Int × Int) : Bool := !SrtO.lexB q p
theorem leP_iff {p q : Int × Int} : leP p q = true ↔ p.1 < q.1 ∨ (p.1 = q.1 ∧ p.2 ≤ q.2) := by
  unfold leP
  rw [Bool.not_eq_true', SrtO.lexB_no]
  omega
def sortP (ps : List (Int × Int)) : List (Int × Int) := ps.mergeSort leP
theorem sortP_perm (ps : List (Int × Int)) : (sortP ps).Perm ps := List.mergeSort_perm _ _
theorem sortP_up (ps : List (Int × Int)) : (sortP ps).Pairwise fun p q => leP p q = true := List.pairwise_mergeSort (fun a b c h1 h2 => by rw [leP_iff] at *; omega) (fun a b => by rw [Bool.or_eq_true, leP_iff, leP_iff]; omega) ps
theorem sortP_is {ps qs : List (Int × Int)} (h : qs.Perm ps) (hs : qs.Pairwise fun p q => leP p q = true) : qs = sortP ps :=
  List.Perm.eq_of_pairwise (le := fun p q => leP p q = true) (fun a b _ _ h1 h2 => by rw [leP_iff] at h1 h2; exact Prod.ext (by omega) (by omega)) hs (sortP_up ps) (h.trans (sortP_perm ps).symm)
theorem pps_up {L : List PP} (h : PPsUp L) : (L.map (·.2)).Pairwise fun p q => leP p q = true := by
  rw [List.pairwise_map]
  exact h.imp fun h => by unfold leP; rw [h]; rfl
/-- points' tuples that stand are taken among the data -/
theorem adPs : ∀ {L : List PP} {Hf H : Hp}, Same Hf H → PPsAt H L → ∃ Hf', Fr2 Hf H Hf' H ∧ Reps Hf' (ppsV L) (ptsD (L.map (·.2)))
  | [], Hf, H, s, _ => ⟨Hf, Fr2.refl s, .nil⟩
  | p :: L, Hf, H, s, h => by
    have f1 := Fr2.adT s (h p List.mem_cons_self)
    obtain ⟨Hf2, f2, r2⟩ := adPs (L := L) f1.s fun q hq => h q (List.mem_cons_of_mem _ hq)
    exact ⟨Hf2, f1.trans f2, .cons (Rep.fr (d := pt p.2.1 p.2.2) (.tup upd_same (.cons (.int _) (.cons (.int _) .nil))) f2) r2⟩
theorem pps_of {Hf H : Hp} (s : Same Hf H) : ∀ {ps : List (Int × Int)} {vs : List V}, Reps Hf vs (ptsD ps) → ∃ L : List PP, vs = ppsV L ∧ PPsAt H L ∧ L.map (·.2) = ps
  | [], _, .nil => ⟨[], rfl, fun q hq => (List.not_mem_nil hq).elim, rfl⟩
  | p :: ps, _, .cons (v := v) h r => by
    obtain ⟨L, e1, e2, e3⟩ := pps_of s r
    obtain ⟨b, rfl, hb⟩ := rep_pt s h
    exact ⟨(b, p) :: L, by rw [e1]; rfl, fun q hq => (List.mem_cons.mp hq).elim (fun z => by rw [z]; exact hb) (e2 q), by rw [List.map_cons, e3]⟩
theorem sort_out {L L' : List PP} {Hf H : Hp} {ks : List (Int × Int)} {Q : VK} {p : Addr} (s : Same Hf H) (hk : (L'.map (·.2)).Perm ks) (g2 : PPsUp L') (g3 : PPsAt H L') (hp : H p = Option.none) (q : ∀ v Hf' H', Fr2 Hf H Hf' H' → Rep Hf' v (.lst (ptsD (sortP ks))) → Q v H') : Q (.ref p) (upd H p (.lst (ppsV L'))) := by
  obtain ⟨Hf1, f1, r1⟩ := adPs s g3
  have f2 := Fr2.new f1.s hp (.lst (ppsV L'))
  refine q _ _ _ (f1.trans f2) (.lst upd_same ?_)
  rw [← sortP_is hk (pps_up g2)]
  exact r1.mono f2.f
theorem boot_sorted_ : bootBuiltins ("sorted" : Str) = some (.builtin "sorted") := by decide +kernel
theorem de_sortL {p : Pos} {ps : List (Int × Int)} (hg : Gl X "sorted") (hm : X.mg "sorted" = Option.none) (ha : DE X E a (.lst (ptsD ps))) (hs : starEach [a] X.env = (false, eval a X.env) :: starEach [] X.env) : DE X E (.Call (.Name "sorted" p) [a] [] pos) (.lst (ptsD (sortP ps))) :=
  de_cB br_sortL hg hm boot_sorted_ (da_cons ha da_nil hs) (fun Hf H vs Q s r q => by
    obtain ⟨v, rfl, rv⟩ := reps1 r
    cases rv with
    | lst h r =>
      obtain ⟨L, rfl, hL, hps⟩ := pps_of s r
      refine ⟨_, L, rfl, SqL.of (s _ _ h), hL, fun L' p g1 g2 g3 hp => sort_out (L := L) s ?_ g2 g3 hp q⟩
      rw [← hps]
      exact g1.map _) (by decide) (by decide) hs rfl
theorem ppsK_perm {L : List PP} {ks : List (Int × Int)} (h : (ppsK L).Perm ((ks.map keyE).map (·.1))) : (L.map (·.2)).Perm ks := by
  have h2 := h.map (fun k : List Key => match k with | [Sum.inl a, Sum.inl b] => (a, b) | _ => ((0 : Int), (0 : Int)))
  unfold ppsK at h2
  rw [List.map_map, List.map_map, List.map_map] at h2
  have e1 : ∀ L : List PP, L.map ((fun k : List Key => match k with | [Sum.inl a, Sum.inl b] => (a, b) | _ => ((0 : Int), (0 : Int))) ∘ fun q : PP => ([Sum.inl q.2.1, Sum.inl q.2.2] : List Key)) = L.map (·.2) := fun L => List.map_congr_left fun q _ => rfl
  rw [e1] at h2
  have e2 : ∀ ks : List (Int × Int), ks.map (((fun k : List Key => match k with | [Sum.inl a, Sum.inl b] => (a, b) | _ => ((0 : Int), (0 : Int))) ∘ (fun kv : List Key × V => kv.1)) ∘ keyE) = ks := fun ks => by
    conv => rhs; rw [← List.map_id ks]
    exact List.map_congr_left fun q _ => rfl
  rw [e2] at h2
  exact h2
theorem de_sortT {p : Pos} {ks : List (Int × Int)} (hc : X.calm = true) (hg : Gl X "sorted") (hm : X.mg "sorted" = Option.none) (ha : DE X E a (.dct ks)) (hs : starEach [a] X.env = (false, eval a X.env) :: starEach [] X.env) : DE X E (.Call (.Name "sorted" p) [a] [] pos) (.lst (ptsD (sortP ks))) :=
  de_cB (br_sortT hc) hg hm boot_sorted_ (da_cons ha da_nil hs) (fun Hf H vs Q s r q => by
    obtain ⟨v, rfl, rv⟩ := reps1 r
    cases rv with
    | dct h => exact ⟨_, _, rfl, h.same s, fun p hp => (let ⟨q, _, e⟩ := List.mem_map.mp hp; ⟨q.1, q.2, by rw [← e]⟩), fun L' p g1 g2 g3 hp => sort_out (L := L') s (ppsK_perm g1) g2 g3 hp q⟩) (by decide) (by decide) hs rfl
/-! ### min of three -/
def mn3 (a b c : Int) : Int := min a (min b c)
theorem boot_min_ : bootBuiltins ("min" : Str) = some (.builtin "min") := by decide +kernel
theorem de_min3 {p : Pos} (hc : X.calm = true) (hg : Gl X "min") (hm : X.mg "min" = Option.none) (ha : DE X E a (.lst [.int x, .int y, .int u])) (hs : starEach [a] X.env = (false, eval a X.env) :: starEach [] X.env) : DE X E (.Call (.Name "min" p) [a] [] pos) (.int (mn3 x y u)) :=
  de_cB (cr_min hc) hg hm boot_min_ (da_cons ha da_nil hs) (fun Hf H vs Q s r q => by
    obtain ⟨v, rfl, rv⟩ := reps1 r
    cases rv with
    | lst h r =>
      cases r with
      | cons r1 r => cases r with
        | cons r2 r => cases r with
          | cons r3 r =>
            cases r
            cases r1
            cases r2
            cases r3
            refine ⟨_, [x, y, u], rfl, SqL.of (s _ _ h), Nat.succ_pos _, fun m h1 h2 => ?_⟩
            have e : m = mn3 x y u := by
              have a1 := h2 x (by simp)
              have a2 := h2 y (by simp)
              have a3 := h2 u (by simp)
              unfold mn3
              simp only [List.mem_cons, List.not_mem_nil, or_false] at h1
              omega
            rw [e]
            exact ev_now s (.int _) q) (by decide) (by decide) hs rfl
/-! ### an instance's fields, made and called -/
theorem fs_at : ∀ {fs : List (Str × V)} {ns : List Str} {ds : List Dt} {Hf : Hp} {n : Nat} {f : Str} {d : Dt}, fs.map (·.1) = ns → Reps Hf (fs.map (·.2)) ds → ns.Nodup → ns[n]? = some f → ds[n]? = some d → ∃ v, fs.lookup f = some v ∧ Rep Hf v d
  | [], _, _, _, n, _, _, e, _, _, h, _ => by subst e; simp at h
  | (g, v) :: fs, _, _, Hf, 0, f, d, e, r, hn, h, hd => by
    subst e
    cases r with
    | cons r1 r =>
      simp at h hd
      subst h
      subst hd
      exact ⟨v, by simp [List.lookup], r1⟩
  | (g, v) :: fs, _, _, Hf, n + 1, f, d, e, r, hn, h, hd => by
    subst e
    cases r with
    | cons r1 r =>
      rw [List.map_cons, List.nodup_cons] at hn
      simp only [List.map_cons, List.getElem?_cons_succ] at h hd
      obtain ⟨w, hw, rw'⟩ := fs_at rfl r hn.2 h hd
      refine ⟨w, ?_, rw'⟩
      have : f ≠ g := fun z => by
        subst z
        exact hn.1 (List.mem_of_getElem? h)
      simp only [List.lookup, show (f == g) = false from beq_eq_false_iff_ne.mpr this]
      exact hw
theorem de_fld {C : Addr} {ns : List Str} {ds : List Dt} {n : Nat} {f : Str} {ap : Pos} (h : DE X E a (.ob C ns ds)) (hc : Cls X.K C) (hn : NoAttr X.K C f) (hnd : ns.Nodup) (h1 : ns[n]? = some f) (h2 : ds[n]? = some d) (hb : attributeBase a f X.env (eval a X.env) = eval a X.env) : DE X E (.Attribute a f ap) d := by
  obtain ⟨_, p, r⟩ := h
  refine ⟨_, pe_fld p hb, fun Hf σ H s e Q k => r Hf σ H s e _ fun v Hf1 H1 f1 rv => ?_⟩
  cases rv with
  | ob hh e1 rr =>
    obtain ⟨w, hw, rw'⟩ := fs_at e1 rr hnd h1 h2
    exact ⟨_, _, _, _, w, rfl, f1.s _ _ hh, hc, hn, hw, k w Hf1 H1 f1 rw'⟩
theorem dm_fld {C D : Addr} {ns : List Str} {ds : List Dt} {n m : Nat} {f : Str} {ap : Pos} (h : DE X E a (.raw (.ref D))) (hm : M[m]? = some (D, .ob C ns ds)) (hc : Cls X.K C) (hn : NoAttr X.K C f) (hnd : ns.Nodup) (h1 : ns[n]? = some f) (h2 : ds[n]? = some d) (hb : attributeBase a f X.env (eval a X.env) = eval a X.env) : DM X E M (.Attribute a f ap) d M := by
  refine dm_of (pe_fld pe_u hb) rfl fun Hf σ H s e mm Q k => (dm_ h).r Hf σ H s e mm _ fun v Hf1 H1 f1 m1 rv => ?_
  cases rv
  obtain ⟨dx, fs, hh, e1, rr⟩ := (m1.at_ _ _ _ hm).2
  obtain ⟨w, hw, rw'⟩ := fs_at e1 rr hnd h1 h2
  exact ⟨_, _, _, _, w, rfl, hh, hc, hn, hw, k w Hf1 H1 f1 m1 rw'⟩
theorem putF_new {f : Str} {v : V} : ∀ {fs : List (Str × V)}, f ∉ fs.map (·.1) → putF f v fs = fs ++ [(f, v)]
  | [], _ => rfl
  | (g, w) :: fs, h => by
    rw [List.map_cons, List.mem_cons, not_or] at h
    show (if g = f then _ else _) = _
    rw [if_neg fun z => h.1 z.symm, putF_new h.2]
    rfl
theorem sm1_fld {C D : Addr} {ns : List Str} {ds : List Dt} {m : Nat} {f : Str} {pp : Pos} {o' : Expr} (hv : DM X E M e d M1) (ho : DE X E o' (.raw (.ref D))) (hm : M1[m]? = some (D, .ob C ns ds)) (hc : Cls X.K C) (hn : NoAttr X.K C f) (hf : f ∉ ns) (hl : ns.length < 1000)
    (hs : swapsWith e (some (.Attribute o' f pp)) pos.line X.env = pure false) : S1M X E M (.Assign [.Attribute o' f pp] e pos) (.nx E (M1.set m (D, .ob C (ns ++ [f]) (ds ++ [d])))) := by
  refine ⟨(keys_set hm).trans hv.k, fun Hf σ H D' s q mm k => ⟨_, ps_fld pe_u pe_u hs, ?_⟩⟩
  refine hv.r Hf σ H s q mm _ fun v Hf1 H1 f1 m1 rv => (dm_ ho).r Hf1 σ H1 f1.s (q.mono f1.f) m1 _ fun w Hf2 H2 f2 m2 rw' => ?_
  cases rw'
  obtain ⟨dx, fs, hh, e1, rr⟩ := (m2.at_ _ _ _ hm).2
  have hf' : f ∉ fs.map (·.1) := by rw [e1]; exact hf
  refine ⟨_, _, _, _, rfl, hh, hc, hn, by rw [← e1, List.length_map] at hl; exact hl, ?_⟩
  rw [putF_new hf']
  refine k σ Hf2 _ ((f1.trans f2 hv.k).trans (FrM.put f2.s m2 hm) hv.k) ((q.mono f1.f).mono f2.f) (m2.set hm ⟨dx, _, upd_same, ?_, ?_⟩)
  · rw [List.map_append, e1]; rfl
  · rw [List.map_append]
    exact rr.append (.cons (rv.mono f2.f) .nil)
end
end Br

-- BrMu6
namespace Br
open PySem L2 PySem.Spec PyProof.Rows
theorem wipe_get (σ : L2.St) (j : Nat) : ∀ vs : List Nat, (wipe σ vs)[j]? = if j ∈ vs ∧ j < σ.length then some Option.none else σ[j]?
  | [] => by simp [wipe]
  | v :: vs => by
    show ((wipe σ vs).set v Option.none)[j]? = _
    have hl := wipe_length σ vs
    rw [List.getElem?_set]
    by_cases h : v = j
    · subst h
      by_cases hj : v < σ.length
      · rw [if_pos rfl, if_pos (by omega), if_pos ⟨List.mem_cons_self, hj⟩]
      · rw [if_pos rfl, if_neg (by omega), if_neg (fun z => hj z.2), List.getElem?_eq_none (by omega)]
    · rw [if_neg h, wipe_get σ j vs]
      by_cases hv : j ∈ vs ∧ j < σ.length
      · rw [if_pos hv, if_pos ⟨List.mem_cons_of_mem _ hv.1, hv.2⟩]
      · rw [if_neg hv, if_neg (fun z => hv ⟨(List.mem_cons.mp z.1).resolve_left (fun q => h q.symm), z.2⟩)]
theorem wipe_set {σ : L2.St} {vs : List Nat} {i : Nat} (h : i ∈ vs) (x : Option V) : wipe ((wipe σ vs).set i x) vs = wipe σ vs := by
  apply List.ext_getElem?
  intro j
  rw [wipe_get, wipe_get, List.length_set, wipe_length, List.getElem?_set, wipe_length, wipe_get]
  by_cases h1 : j ∈ vs ∧ j < σ.length
  · rw [if_pos h1, if_pos h1]
  · rw [if_neg h1, if_neg h1]
    by_cases h2 : i = j
    · subst h2
      have : ¬ i < σ.length := fun z => h1 ⟨h, z⟩
      rw [if_pos rfl, if_neg this, List.getElem?_eq_none (by omega)]
    · rw [if_neg h2]
/-! ### a comprehension's clauses over its own object -/
def CBM (tb : L2.St → Hp → (Hp → Prop) → Prop) (D : Addr) (E : En) (c c' : Dt) : Prop := ∀ (Hf : Hp) (σ : L2.St) (H : Hp), Same Hf H → EnvR Hf σ E → MuR Hf H [(D, c)] → ∀ N : Hp → Prop, (∀ Hf' H', FrM [(D, c)] Hf H Hf' H' → MuR Hf' H' [(D, c')] → N H') → tb σ H N
inductive Ch (step : Dt → Dt → Dt → Prop) : List Dt → Dt → Dt → Prop
  | nil {c : Dt} : Ch step [] c c
  | cons {d : Dt} {ds : List Dt} {c c1 c2 : Dt} : step d c c1 → Ch step ds c1 c2 → Ch step (d :: ds) c c2
theorem cb_app {C : Cx → Prop} {elt : Expr} {D : Addr} {E : En} {das : List Dt} {d : Dt} (he : ∃ c, C c) (h : ∀ c, C c → DE c E elt d) (hz : das.length < sizeLine) : CBM (tbApp (cE C elt) D) D E (.lst das) (.lst (das ++ [d])) := fun Hf σ H s e m N k c hc => by
  refine (dm_ (M := [(D, .lst das)]) (h c hc)).r Hf σ H s e m _ fun v Hf1 H1 f1 m1 rv => ?_
  obtain ⟨xs, e1, rr⟩ := m1.get (i := 0) rfl
  exact ⟨xs, e1, by rw [rr.length]; exact hz, k Hf1 _ (f1.trans (FrM.put f1.s m1 (i := 0) rfl) rfl) (m1.set (i := 0) rfl ⟨_, upd_same, rr.snoc rv⟩)⟩
theorem cb_put {C : Cx → Prop} {kx vx : Expr} {D : Addr} {E : En} {ks : List (Int × Int)} {p : Int × Int} (h : ∀ c, C c → DE c E kx (pt p.1 p.2)) (hv : ∀ c, C c → DE c E vx (.bool true)) (hz : ks.length < sizeLine) : CBM (tbPut (cE C kx) (cE C vx) D) D E (.dct ks) (.dct (putP ks p)) := fun Hf σ H s e m N k c hc => by
  refine (dm_ (M := [(D, .dct ks)]) (h c hc)).r Hf σ H s e m _ fun v Hf1 H1 f1 m1 rv c' hc' => ?_
  refine (dm_ (M := [(D, .dct ks)]) (hv c' hc')).r Hf1 σ H1 f1.s (e.mono f1.f) m1 _ fun w Hf2 H2 f2 m2 rw' => ?_
  cases rw'
  obtain ⟨b, rfl, hb⟩ := rep_pt f2.s (rv.mono f2.f)
  have hd := m2.dict (i := 0) rfl
  refine ⟨_, [Sum.inl p.1, Sum.inl p.2], b, rfl, hd, hb, by rw [List.length_map]; exact hz, k Hf2 _ ((f1.trans f2 rfl).trans (FrM.put f2.s m2 (i := 0) rfl) rfl) (m2.set (i := 0) rfl ?_)⟩
  show upd H2 D _ D = _
  rw [upd_same, putK_keyE ks p]
theorem cb_clause {tb : L2.St → Hp → (Hp → Prop) → Prop} {D : Addr} {E : En} {vs : List Nat} {i : Nat} {ds : List Dt} {J : It} {c c' : Dt} {Hf : Hp} {σ : L2.St} {H : Hp} (hi : i ∈ vs) (s : Same Hf H) (e : EnvR Hf σ E) (m : MuR Hf H [(D, c)]) (it : ItOk J ds Hf)
    (h : Ch (fun d => CBM tb D ((wipeE E vs).set i (some d))) ds c c') {N : Hp → Prop} (k : ∀ Hf' H', FrM [(D, c)] Hf H Hf' H' → MuR Hf' H' [(D, c')] → N H') : tClause J (gName i) tYes tb vs σ H N := by
  refine ⟨fun n mm H' => mm = ds.length - n ∧ n ≤ ds.length ∧ ∃ c1 Hf', FrM [(D, c)] Hf H Hf' H' ∧ MuR Hf' H' [(D, c1)] ∧ Ch (fun d => CBM tb D ((wipeE E vs).set i (some d))) (ds.drop n) c1 c', ⟨_, rfl, Nat.zero_le _, c, Hf, FrM.refl s, m, by simpa using h⟩, ?_⟩
  rintro n mm H' ⟨rfl, hn, c1, Hf', f', m', ch⟩
  have sH : Same Hf H' := f'.f.trans f'.s
  by_cases hz : n < ds.length
  · have hd : ds[n]? = some ds[n] := List.getElem?_eq_getElem hz
    have hdr : ds.drop n = ds[n] :: ds.drop (n + 1) := List.drop_eq_getElem_cons hz
    rw [hdr] at ch
    refine .inr ⟨it.1 n H' sH hz, fun H2 => ∃ c1 Hf', FrM [(D, c)] Hf H Hf' H2 ∧ MuR Hf' H2 [(D, c1)] ∧ Ch (fun d => CBM tb D ((wipeE E vs).set i (some d))) (ds.drop (n + 1)) c1 c', fun H2 q2 => ⟨ds.length - (n + 1), by omega, rfl, hz, q2⟩, fun x H2 y => ?_⟩
    obtain ⟨rfl, d', hd', ad⟩ := it.2.2 n H' x H2 sH hz y
    rw [hd] at hd'
    cases hd'
    obtain ⟨Hf2, fa, ra⟩ := ad Hf' f'.f f'.s
    refine ⟨wipe_set hi _, ?_⟩
    dsimp only [tYes]
    rw [if_pos rfl]
    cases ch with
    | cons hs hr => exact hs Hf2 _ _ fa.s ((((e.mono f'.f).mono fa.f).wipe vs).set i ra) (m'.fr2 fa) _ fun Hf3 H3 f3 m3 => ⟨_, Hf3, (f'.trans (M1 := [(D, c1)]) fa.toM rfl).trans f3 rfl, m3, hr⟩
  · have hdr : ds.drop n = [] := List.drop_eq_nil_of_le (by omega)
    rw [hdr] at ch
    cases ch
    exact .inl ⟨it.2.1 n H' sH (by omega), k Hf' H' f' m'⟩
def cI (C : Cx → Prop) (tg e : Expr) : TI := fun σ H R => ∀ c, C c → uI c tg e σ H R
theorem pi_cI {C : Cx → Prop} {tg e : Expr} {c : Cx} (h : C c) : PI c tg e (cI C tg e) := ⟨fun pins s σ H R I k => by
  obtain ⟨t, p, r⟩ := k c h
  exact p.run pins s σ H R I r⟩
theorem cb_sub {C : Cx → Prop} {tg iter : Expr} {tb : L2.St → Hp → (Hp → Prop) → Prop} {D : Addr} {E : En} {vs : List Nat} {i : Nat} {ds : List Dt} {c c' : Dt} (hi : i ∈ vs) (hI : ∀ cx, C cx → ∀ M, IDM cx E M tg iter ds M)
    (h : Ch (fun d => CBM tb D ((wipeE E vs).set i (some d))) ds c c') : CBM (tbSub (cI C tg iter) (gName i) tYes tb vs) D E c c' := fun Hf σ H s e m N k cx hcx => by
  refine (hI cx hcx [(D, c)]).r Hf σ H s e m _ fun J Hf1 H1 f1 m1 it => ?_
  exact cb_clause hi f1.s (e.mono f1.f) m1 it h fun Hf2 H2 f2 m2 => k Hf2 H2 (f1.trans f2 rfl) m2
/-- the whole comprehension -/
theorem ev_comp {X : Cx} {tg iter : Expr} {tb : Addr → L2.St → Hp → (Hp → Prop) → Prop} {ho : HO} {E : En} {vs : List Nat} {i : Nat} {ds : List Dt} {c c' : Dt} (hi : i ∈ vs) (hI : ∀ M, IDM X E M tg iter ds M) (hho : ∀ Hf H D, H D = some ho → CR Hf H D c)
    (h : ∀ D, Ch (fun d => CBM (tb D) D ((wipeE E vs).set i (some d))) ds c c') : Ev (tComp (uI X tg iter) (gName i) tYes tb ho vs) E c' := fun Hf σ H s e Q k => by
  refine (hI []).r Hf σ H s e muR_nil _ fun J Hf1 H1 f1 _ it D hD => ?_
  have f1' := f1.two (M := [])
  have m1 : MuR Hf1 (upd H1 D ho) ([] ++ [(D, c)]) := muR_nil.new f1.s hD (hho _ _ _ upd_same)
  have f2 := Fr2.own f1.s hD ho
  have it2 : ItOk J ds Hf1 := it
  refine cb_clause hi f2.s (e.mono f1.f) m1 it2 (h D) fun Hf3 H3 f3 m3 => ?_
  obtain ⟨Hf4, rr, g1, g2, _, g3⟩ := MuR.adopt (M := []) f3.s m3
  have noD : ∀ a o, H a = some o → a ≠ D := fun a o e z => by
    subst z
    rw [f1'.h _ _ e] at hD
    cases hD
  have nI : ∀ a o, H a = some o → ¬ InM [(D, c)] a := fun a o e hm => by
    rcases inM_snoc (M := []) hm with ⟨n, c', h⟩ | z
    · simp at h
    · exact noD a o e z
  refine k _ Hf4 H3 ⟨(f1.f.trans f3.f).trans g1, fun a o e => f3.h a o (nI a o e) (f2.h a o (f1'.h a o e)), g2, fun a o e t n => ?_⟩ rr
  rw [g3 a (noD a o e)]
  exact f3.n a o (nI a o e) (f2.h a o (f1'.h a o e)) t (f1'.n a o e t n)
section
variable {X : Cx} {E : En} {M M1 : Mu} {a : Expr} {es : List Expr} {pos p : Pos} {x : Str} {i : Nat} {d : Dt}
/-- {x: True for x in iter} -/
theorem de_dcP {kx vx iter : Expr} {scope : Scope} {ps : List (Int × Int)} (hc : X.calm = true) (hu : X.A.units < cLine) (hN : X.N.Nodup) (ok : BlkOk X.N X.env.scope scope [(x, i)])
    (hg : ∀ (s : Shared) (H : Hp) (C : Addr) (cl : List (Str × Addr)) (fp : List Addr), PG (X.blk s H scope (compEnvC scope cl C X.env) fp) (.Name x p) (gName i)) (ha : DE X E iter (.lst (ptsD ps)))
    (hk : ∀ q : Int × Int, ∀ c, Blk X scope c → DE c ((wipeE E [i]).set i (some (pt q.1 q.2))) kx (pt q.1 q.2)) (hv : ∀ q : Int × Int, ∀ c, Blk X scope c → DE c ((wipeE E [i]).set i (some (pt q.1 q.2))) vx (.bool true)) (hz : ps.length < sizeLine) (hs : ∀ x, foldedSetIterable iter X.env x = pure x) :
    DE X E (.DictComp kx vx [⟨.Name x p, iter, [], 0⟩] scope pos) (.dct (ps.foldl putP [])) := by
  refine ⟨_, br_dcT (own := [(x, i)]) (wi := uI X (.Name x p) iter) (g := gName i) (tt := tYes) (tk := cE (Blk X scope) kx) (tv := cE (Blk X scope) vx) hc hu hN pi_u ok hg (fun s H C cl fp => pts_nil) (fun s H C cl fp => pe_cE ⟨s, H, C, cl, fp, rfl⟩) (fun s H C cl fp => pe_cE ⟨s, H, C, cl, fp, rfl⟩) hs, ?_⟩
  refine ev_comp (vs := [i]) (c := .dct []) (List.mem_singleton.mpr rfl) (fun M => id_list (dm_ ha)) (fun Hf H D h => h) fun D => ?_
  have key : ∀ (ps : List (Int × Int)) (ks : List (Int × Int)), ks.length + ps.length < sizeLine → Ch (fun d => CBM (tbPut (cE (Blk X scope) kx) (cE (Blk X scope) vx) D) D ((wipeE E [i]).set i (some d))) (ptsD ps) (.dct ks) (.dct (ps.foldl putP ks)) := by
    intro ps
    induction ps with
    | nil => exact fun ks _ => .nil
    | cons q ps ih =>
      intro ks hl
      rw [List.length_cons] at hl
      refine .cons (cb_put (hk q) (hv q) (by omega)) (ih _ ?_)
      unfold putP
      split
      · omega
      · rw [List.length_append, List.length_singleton]; omega
  exact key ps [] (by simpa using hz)
/-- C(..): made -/
theorem dm_make {C f : Addr} {fd : FuncData} {ps : List Str} {k n : Nat} {R : List Dt → Mu → Dt → Mu → Prop} {args : List Dt} {ns : List Str} {ds : List Dt} (MK : Mk X.K C f) (F : FnOk X.prog X.w X.K X.mg X.base CX0 k f fd ps (spM n R)) (hr : Room (k + 1) X.A) (hg : Gl X x) (hm : X.mg x = some (.ref C)) (hb : Binds X.K fd ps [])
    (ha : AM X E M (a :: es) args M1) (hR : ∀ y, R (.raw (.ref y) :: args) [(y, .ob C [] [])] .non [(y, .ob C ns ds)]) (hl : args.length + 1 = n) (hdb : (x == ("__debug__" : Str)) = false) (he : starEach (a :: es) X.env = (false, eval a X.env) :: starEach es X.env) (hpl : (backTo pos (starEach es X.env)).any (·.1) = false) :
    DM X E M (.Call (.Name x p) (a :: es) [] pos) (.ob C ns ds) M1 := by
  refine dm_of (pe_make (ds := []) (dvs := []) (E := E0) MK F hr hg hm hb .nil pass0 pa_u hdb he hpl) ha.k fun Hf σ H s q m Q k => ?_
  refine ha.r Hf σ H s q m _ fun vs Hf1 H1 f1 m1 rs y dx hy hdx hne => ?_
  have g1 := Fr2.own f1.s hdx (.own y)
  have hy1 : upd H1 dx (.own y) y = Option.none := by rw [upd_ne fun z => hne z.symm]; exact hy
  have g2 := Fr2.own g1.s hy1 (.ins C dx [])
  have m2 : MuR Hf1 (upd (upd H1 dx (.own y)) y (.ins C dx [])) (M1 ++ [(y, .ob C [] [])]) := (m1.fr2 g1).new g1.s hy1 ⟨dx, [], upd_same, rfl, .nil⟩
  rw [List.append_nil]
  refine ⟨Hf1, .raw (.ref y) :: args, [(y, .ob C [] [])], .non, [(y, .ob C ns ds)], g2.s, .cons (.raw _) rs, m2.right, by simpa using hl, hR y, rfl, fun v Hf3 H3 f3 m3 r3 => ?_⟩
  cases r3
  refine ⟨rfl, ?_⟩
  have ap : ∀ D, InM M1 D → ¬ InM [(y, Dt.ob C [] [])] D := fun D h1 h2 => m2.apart D h2 h1
  have m4 : MuR Hf3 H3 M1 := m2.left.rest f3 ap
  have m5 : MuR Hf3 H3 (M1 ++ [(y, .ob C ns ds)]) := m4.app m3 fun D h1 h2 => ap D h2 (by
    rcases inM_snoc (M := []) h1 with ⟨n, c', h⟩ | z
    · simp at h
    · exact ⟨0, _, by rw [z]; rfl⟩)
  obtain ⟨Hf4, rr, q1, q2, m6, q3⟩ := m5.adopt f3.s
  have f4 : FrM M1 Hf1 H1 Hf3 H3 := (g1.trans g2).toM.trans' f3 fun D hD => by
    rcases inM_snoc (M := []) hD with ⟨n, c', h⟩ | z
    · simp at h
    · exact .inr (by rw [z]; exact hy)
  refine k _ Hf4 H3 (f1.trans ⟨f4.f.trans q1, q2, f4.h, f4.t, fun a o hm e t n => ?_⟩ ha.k) m6 rr
  rw [q3 a fun z => by subst z; rw [hy] at e; cases e]
  exact f4.n a o hm e t n
/-- o.m() -/
theorem de_meth0 {pl : Sem Bool} {C f : Addr} {fd : FuncData} {ps : List Str} {k : Nat} {R : List Dt → Dt → Prop} {ns : List Str} {ds : List Dt} {m : Str} {apos : Pos} (ha : DE X E a (.ob C ns ds)) (hc : Cls X.K C) (hm : Meth X.K C m f) (F : FnOk X.prog X.w X.K X.mg X.base CX0 k f fd ps (spD 1 R)) (hr : Room k X.A)
    (hb : Binds X.K fd ps []) (hR : R [.ob C ns ds] d) (hn : m ∉ ns)
    (ht : eval (.Call (.Attribute a m apos) [] [] pos) X.env = (do
      let ov ← eval a X.env
      standAt apos.atName
      let (f, first) ← holding [ov] (getMethod ov m pl)
      callWith pos f first (backTo pos (starEach [] X.env)) (backToKw pos (keywordEach [] X.env)))) : DE X E (.Call (.Attribute a m apos) [] [] pos) d := by
  obtain ⟨_, p1, r1⟩ := ha
  refine ⟨_, pe_meth0 (ds := []) (dvs := []) (E := E0) p1 hc hm F hr hb .nil pass0 ht, fun Hf σ H s e Q k => r1 Hf σ H s e _ fun v Hf1 H1 f1 rv => ?_⟩
  cases rv with
  | @ob y C' dx fs ns' ds' hh e1 rr =>
    refine ⟨_, _, _, rfl, f1.s _ _ hh, ?_, Hf1, [.ob C ns ds], d, f1.s, .cons (.ob hh e1 rr) .nil, rfl, hR, fun v Hf2 H2 f2 r2 => k v Hf2 H2 (f1.trans f2) r2⟩
    rw [List.lookup_eq_none_iff]
    intro q hq
    rw [bne_iff_ne]
    intro z
    exact hn (by rw [z, ← e1]; exact List.mem_map_of_mem hq)
end
end Br

-- BrMu7
namespace Br
open PySem L2 PySem.Spec PyProof.Rows
theorem forM_inv {X : Cx} {i : Nat} {body : List Stmt} {I : En → Mu → Prop} : ∀ {ds : List Dt}, (∀ d ∈ ds, ∀ E M, I E M → ∃ E' M', I E' M' ∧ SM X (E.set i (some d)) M body (.nx E' M')) → ∀ {E : En} {M : Mu}, I E M → ∃ E' M', I E' M' ∧ ForM X i body ds E M (.nx E' M')
  | [], _, E, M, h => ⟨E, M, h, .nil⟩
  | d :: ds, hs, E, M, h => by
    obtain ⟨E1, M1, h1, s1⟩ := hs d List.mem_cons_self E M h
    obtain ⟨E2, M2, h2, s2⟩ := forM_inv (fun d hd => hs d (List.mem_cons_of_mem _ hd)) h1
    exact ⟨E2, M2, h2, .next s1 s2⟩
theorem forM_acc {X : Cx} {i : Nat} {body : List Stmt} {I : En → Prop} {M : List Dt → Mu} {f : Dt → List Dt} {B : Nat} : ∀ {ds : List Dt}, (∀ d ∈ ds, ∀ acc E, I E → (acc ++ f d).length ≤ B → ∃ E', I E' ∧ SM X (E.set i (some d)) (M acc) body (.nx E' (M (acc ++ f d)))) →
    ∀ {acc : List Dt} {E : En}, I E → (acc ++ ds.flatMap f).length ≤ B → ∃ E', I E' ∧ ForM X i body ds E (M acc) (.nx E' (M (acc ++ ds.flatMap f)))
  | [], _, acc, E, h, _ => ⟨E, h, by rw [List.flatMap_nil, List.append_nil]; exact .nil⟩
  | d :: ds, hs, acc, E, h, hl => by
    rw [List.flatMap_cons, ← List.append_assoc] at hl
    obtain ⟨E1, h1, s1⟩ := hs d List.mem_cons_self acc E h (by rw [List.length_append] at hl; omega)
    obtain ⟨E2, h2, s2⟩ := forM_acc (fun d hd => hs d (List.mem_cons_of_mem _ hd)) (acc := acc ++ f d) h1 hl
    refine ⟨E2, h2, ?_⟩
    rw [List.flatMap_cons, ← List.append_assoc]
    exact .next s1 s2
theorem ch_acc {step : Dt → Dt → Dt → Prop} {f : Dt → List Dt} {B : Nat} : ∀ {ds : List Dt}, (∀ d ∈ ds, ∀ das, (das ++ f d).length ≤ B → step d (.lst das) (.lst (das ++ f d))) → ∀ {das : List Dt}, (das ++ ds.flatMap f).length ≤ B → Ch step ds (.lst das) (.lst (das ++ ds.flatMap f))
  | [], _, das, _ => by rw [List.flatMap_nil, List.append_nil]; exact .nil
  | d :: ds, hs, das, hl => by
    rw [List.flatMap_cons, ← List.append_assoc] at hl ⊢
    exact .cons (hs d List.mem_cons_self das (by rw [List.length_append] at hl; omega)) (ch_acc (fun d hd => hs d (List.mem_cons_of_mem _ hd)) hl)
theorem flat_one : ∀ ds : List Dt, ds.flatMap (fun d => [d]) = ds
  | [] => rfl
  | d :: ds => by rw [List.flatMap_cons, flat_one ds]; rfl
theorem blk_ex {X : Cx} {scope : Scope} (s : Shared) (H : Hp) (C : Addr) (cl : List (Str × Addr)) (fp : List Addr) : ∃ c, Blk X scope c := ⟨_, s, H, C, cl, fp, rfl⟩
section
variable {X : Cx} {E : En} {pos p0 p1 p2 : Pos} {x y z : Str} {i j l : Nat} {elt i0 i1 i2 : Expr} {scope : Scope} {ds0 ds1 : List Dt} {g : Dt → Dt → List Dt}
theorem de_lc3 (hc : X.calm = true) (hN : X.N.Nodup) (ok : BlkOk X.N X.env.scope scope [(x, i), (y, j), (z, l)])
    (hg0 : ∀ (s : Shared) (H : Hp) (C : Addr) (cl : List (Str × Addr)) (fp : List Addr), PG (X.blk s H scope (compEnvC scope cl C X.env) fp) (.Name x p0) (gName i))
    (hg1 : ∀ (s : Shared) (H : Hp) (C : Addr) (cl : List (Str × Addr)) (fp : List Addr), PG (X.blk s H scope (compEnvC scope cl C X.env) fp) (.Name y p1) (gName j))
    (hg2 : ∀ (s : Shared) (H : Hp) (C : Addr) (cl : List (Str × Addr)) (fp : List Addr), PG (X.blk s H scope (compEnvC scope cl C X.env) fp) (.Name z p2) (gName l))
    (h0 : ∀ M, IDM X E M (.Name x p0) i0 ds0 M)
    (h1 : ∀ d0 ∈ ds0, ∀ c, Blk X scope c → ∀ M, IDM c ((wipeE E [i, j, l]).set i (some d0)) M (.Name y p1) i1 ds1 M)
    (h2 : ∀ d0 ∈ ds0, ∀ d1 ∈ ds1, ∀ c, Blk X scope c → ∀ M, IDM c ((wipeE ((wipeE E [i, j, l]).set i (some d0)) [j, l]).set j (some d1)) M (.Name z p2) i2 (g d0 d1) M)
    (he : ∀ d0 ∈ ds0, ∀ d1 ∈ ds1, ∀ d2 ∈ g d0 d1, ∀ c, Blk X scope c → DE c ((wipeE ((wipeE ((wipeE E [i, j, l]).set i (some d0)) [j, l]).set j (some d1)) [l]).set l (some d2)) elt d2)
    (hz : (ds0.flatMap fun d0 => ds1.flatMap fun d1 => g d0 d1).length < sizeLine)
    (hs : ∀ x, foldedSetIterable i0 X.env x = pure x) (hs1 : ∀ env x, foldedSetIterable i1 env x = pure x) (hs2 : ∀ env x, foldedSetIterable i2 env x = pure x) :
    DE X E (.ListComp elt [⟨.Name x p0, i0, [], 0⟩, ⟨.Name y p1, i1, [], 0⟩, ⟨.Name z p2, i2, [], 0⟩] scope pos) (.lst (ds0.flatMap fun d0 => ds1.flatMap fun d1 => g d0 d1)) := by
  refine ⟨_, br_lc3 (own := [(x, i), (y, j), (z, l)]) (v1 := [j, l]) (v2 := [l]) (w0 := uI X (.Name x p0) i0) (w1 := cI (Blk X scope) (.Name y p1) i1) (w2 := cI (Blk X scope) (.Name z p2) i2) (tt0 := tYes) (tt1 := tYes) (tt2 := tYes) (te := cE (Blk X scope) elt) hc hN pi_u ok (by simp) (by simp)
    hg0 (fun _ _ _ _ _ => pts_nil) (fun s H C cl fp => pi_cI ⟨s, H, C, cl, fp, rfl⟩) hg1 (fun _ _ _ _ _ => pts_nil) (fun s H C cl fp => pi_cI ⟨s, H, C, cl, fp, rfl⟩) hg2 (fun _ _ _ _ _ => pts_nil) (fun s H C cl fp => pe_cE ⟨s, H, C, cl, fp, rfl⟩) hs hs1 hs2, ?_⟩
  refine ev_comp (vs := [i, j, l]) (c := .lst []) (by simp) h0 (fun Hf H D h => ⟨[], h, .nil⟩) fun D => ?_
  have ex : ∃ c, Blk X scope c := blk_ex X.s_0 X.H_0 0 [] []
  have := ch_acc (B := sizeLine - 1) (f := fun d0 => ds1.flatMap fun d1 => g d0 d1) (das := []) (ds := ds0) (step := fun d => CBM (tbSub (cI (Blk X scope) (.Name y p1) i1) (gName j) tYes (tbSub (cI (Blk X scope) (.Name z p2) i2) (gName l) tYes (tbApp (cE (Blk X scope) elt) D) [l]) [j, l]) D ((wipeE E [i, j, l]).set i (some d))) (fun d0 hd0 das hl => ?_) (by rw [List.nil_append]; omega)
  · rw [List.nil_append] at this
    exact this
  refine cb_sub (by simp) (h1 d0 hd0) (ch_acc (B := sizeLine - 1) (fun d1 hd1 das hl => ?_) hl)
  refine cb_sub (by simp) (h2 d0 hd0 d1 hd1) ?_
  have h3 := ch_acc (B := sizeLine - 1) (f := fun d => [d]) (das := das) (ds := g d0 d1) (step := fun d => CBM (tbApp (cE (Blk X scope) elt) D) D ((wipeE ((wipeE ((wipeE E [i, j, l]).set i (some d0)) [j, l]).set j (some d1)) [l]).set l (some d))) (fun d2 hd2 das hl2 => cb_app ex (he d0 hd0 d1 hd1 d2 hd2) (by
    rw [List.length_append, List.length_singleton] at hl2
    have : 0 < sizeLine := by decide
    omega)) (by rw [flat_one]; exact hl)
  rw [flat_one] at h3
  exact h3
end
/-! ### loops, by what stays true -/
section
variable {X : Cx} {E : En} {M M1 : Mu} {pos p' : Pos} {x : Str} {i : Nat} {iter : Expr} {body rest : List Stmt} {ds : List Dt} {o : OM} {I : En → Mu → Prop} {J : En → Mu → Prop}
theorem sm_forI (I : En → Mu → Prop) (hp : PassesOwn (model X.prog X.w) X.A X.env X.xe) (hc : X.calm = true) (L : Ls X i x) (hi : IDM X E M (.Name x p') iter ds M1) (hs : ∀ x, foldedSetIterable iter X.env x = pure x) (h0 : I E M1)
    (h : ∀ d ∈ ds, ∀ E M, I E M → ∃ E' M', I E' M' ∧ SM X (E.set i (some d)) M body (.nx E' M')) (hr : ∀ E' M', I E' M' → SM X E' M' rest o) : SM X E M (.For (.Name x p') iter body [] pos :: rest) o := by
  obtain ⟨E', M', hI, fo⟩ := forM_inv h h0
  exact sm_cons (sm1_for hp hc L hi fo hs) (hr E' M' hI)
theorem ex_forI (I : En → Mu → Prop) (hp : PassesOwn (model X.prog X.w) X.A X.env X.xe) (hc : X.calm = true) (L : Ls X i x) (hi : IDM X E M (.Name x p') iter ds M1) (hs : ∀ x, foldedSetIterable iter X.env x = pure x) (h0 : I E M1)
    (h : ∀ d ∈ ds, ∀ E M, I E M → ∃ E' M', I E' M' ∧ SM X (E.set i (some d)) M body (.nx E' M')) (hr : ∀ E' M', I E' M' → ∃ E2 M2, J E2 M2 ∧ SM X E' M' rest (.nx E2 M2)) : ∃ E2 M2, J E2 M2 ∧ SM X E M (.For (.Name x p') iter body [] pos :: rest) (.nx E2 M2) := by
  obtain ⟨E', M', hI, fo⟩ := forM_inv h h0
  obtain ⟨E2, M2, hJ, r⟩ := hr E' M' hI
  exact ⟨E2, M2, hJ, sm_cons (sm1_for hp hc L hi fo hs) r⟩
variable {I1 : En → Prop} {J1 : En → Prop} {MM : List Dt → Mu} {f : Dt → List Dt} {B : Nat} {acc : List Dt} {M2 : Mu}
/-- .. where the turns append -/
theorem sm_forA (I1 : En → Prop) (MM : List Dt → Mu) (f : Dt → List Dt) (B : Nat) (hp : PassesOwn (model X.prog X.w) X.A X.env X.xe) (hc : X.calm = true) (L : Ls X i x) (hi : IDM X E M (.Name x p') iter ds (MM acc)) (hs : ∀ x, foldedSetIterable iter X.env x = pure x) (h0 : I1 E) (hB : (acc ++ ds.flatMap f).length ≤ B)
    (h : ∀ d ∈ ds, ∀ acc E, I1 E → (acc ++ f d).length ≤ B → ∃ E', I1 E' ∧ SM X (E.set i (some d)) (MM acc) body (.nx E' (MM (acc ++ f d)))) (hr : ∀ E', I1 E' → SM X E' (MM (acc ++ ds.flatMap f)) rest o) : SM X E M (.For (.Name x p') iter body [] pos :: rest) o := by
  obtain ⟨E', hI, fo⟩ := forM_acc h h0 hB
  exact sm_cons (sm1_for hp hc L hi fo hs) (hr E' hI)
theorem ex_forA (I1 : En → Prop) (MM : List Dt → Mu) (f : Dt → List Dt) (B : Nat) (hp : PassesOwn (model X.prog X.w) X.A X.env X.xe) (hc : X.calm = true) (L : Ls X i x) (hi : IDM X E M (.Name x p') iter ds (MM acc)) (hs : ∀ x, foldedSetIterable iter X.env x = pure x) (h0 : I1 E) (hB : (acc ++ ds.flatMap f).length ≤ B)
    (h : ∀ d ∈ ds, ∀ acc E, I1 E → (acc ++ f d).length ≤ B → ∃ E', I1 E' ∧ SM X (E.set i (some d)) (MM acc) body (.nx E' (MM (acc ++ f d)))) (hr : ∀ E', I1 E' → ∃ E2, J1 E2 ∧ SM X E' (MM (acc ++ ds.flatMap f)) rest (.nx E2 M2)) : ∃ E2, J1 E2 ∧ SM X E M (.For (.Name x p') iter body [] pos :: rest) (.nx E2 M2) := by
  obtain ⟨E', hI, fo⟩ := forM_acc h h0 hB
  obtain ⟨E2, hJ, r⟩ := hr E' hI
  exact ⟨E2, hJ, sm_cons (sm1_for hp hc L hi fo hs) r⟩
/-- .. over a dict's keys -/
theorem sm_forK {y : Str} {p2 : Pos} {j : Nat} {ks : List (Int × Int)} (I : En → Mu → Prop) (hp : PassesOwn (model X.prog X.w) X.A X.env X.xe) (hc : X.calm = true) (L : Ls X i x) (Y : Nm X j y) (hE : E[j]? = some (some (.dct ks))) (hs : ∀ z, foldedSetIterable (.Name y p2) X.env z = pure z) (h0 : I E M)
    (h : ∀ d ∈ ptsD ks, ∀ E M, I E M → ∃ E' M', I E' M' ∧ SM X (E.set i (some d)) M body (.nx E' M')) (hr : ∀ E' M', I E' M' → SM X E' M' rest o) : SM X E M (.For (.Name x p') (.Name y p2) body [] pos :: rest) o := by
  obtain ⟨E', M', hI, fo⟩ := forM_inv h h0
  exact sm_cons (sm1_forK hp hc L Y hE fo hs) (hr E' M' hI)
end
section
variable {X : Cx} {E : En} {M M1 : Mu} {pos p' : Pos} {x : Str} {i : Nat} {iter c : Expr} {body rest : List Stmt} {ds : List Dt} {o : OM} {J : En → Mu → Prop}
theorem ex_wh {I : Nat → En → Mu → Prop} (h : ∀ n E M, I n E M → (TM X E M c false M ∧ J E M) ∨ (∃ E' M' M1 n', n' < n ∧ I n' E' M' ∧ TM X E M c true M1 ∧ SM X E M1 body (.nx E' M'))) : ∀ (n : Nat) (E : En) (M : Mu), I n E M → ∃ E' M', J E' M' ∧ WhM X c body E M (.nx E' M') := by
  intro n
  induction n using Nat.strongRecOn with
  | ind n ih =>
    intro E M hI
    rcases h n E M hI with ⟨ht, hJ⟩ | ⟨E', M', M1, n', hn, hI', ht, hb⟩
    · exact ⟨E, M, hJ, .stop ht⟩
    · obtain ⟨E2, M2, hJ, w⟩ := ih n' hn E' M' hI'
      exact ⟨E2, M2, hJ, .turn ht hb w⟩
theorem sm_whileI (I : Nat → En → Mu → Prop) (J : En → Mu → Prop) (n : Nat) (hp : PassesOwn (model X.prog X.w) X.A X.env X.xe) (h0 : I n E M) (h : ∀ n E M, I n E M → (TM X E M c false M ∧ J E M) ∨ (∃ E' M' M1 n', n' < n ∧ I n' E' M' ∧ TM X E M c true M1 ∧ SM X E M1 body (.nx E' M')))
    (hr : ∀ E' M', J E' M' → SM X E' M' rest o) : SM X E M (.While c body [] pos :: rest) o := by
  obtain ⟨E', M', hJ, w⟩ := ex_wh h n E M h0
  exact sm_cons (sm1_while hp w) (hr E' M' hJ)
theorem forM_cnt {I : Nat → En → Mu → Prop} : ∀ {ds : List Dt}, (∀ n d E M, I (n + 1) E M → ∃ E' M', I n E' M' ∧ SM X (E.set i (some d)) M body (.nx E' M')) → ∀ {E : En} {M : Mu}, I ds.length E M → ∃ E' M', I 0 E' M' ∧ ForM X i body ds E M (.nx E' M')
  | [], _, E, M, h => ⟨E, M, h, .nil⟩
  | d :: ds, hs, E, M, h => by
    obtain ⟨E1, M1, h1, s1⟩ := hs ds.length d E M h
    obtain ⟨E2, M2, h2, s2⟩ := forM_cnt hs h1
    exact ⟨E2, M2, h2, .next s1 s2⟩
theorem sm_forN (I : Nat → En → Mu → Prop) (hp : PassesOwn (model X.prog X.w) X.A X.env X.xe) (hc : X.calm = true) (L : Ls X i x) (hi : IDM X E M (.Name x p') iter ds M1) (hs : ∀ x, foldedSetIterable iter X.env x = pure x) (h0 : I ds.length E M1)
    (h : ∀ n d E M, I (n + 1) E M → ∃ E' M', I n E' M' ∧ SM X (E.set i (some d)) M body (.nx E' M')) (hr : ∀ E' M', I 0 E' M' → SM X E' M' rest o) : SM X E M (.For (.Name x p') iter body [] pos :: rest) o := by
  obtain ⟨E', M', hI, fo⟩ := forM_cnt h h0
  exact sm_cons (sm1_for hp hc L hi fo hs) (hr E' M' hI)
end
end Br

-- BrE
namespace Br
open PySem L2 PySem.Spec PyProof.Rows
local macro_rules | `(tactic| walk_at "side") => `(tactic| first | assumption | omega | decide | (left; constructor <;> omega) | (right; constructor <;> omega) | (constructor <;> omega))
set_option hygiene false in
local macro_rules | `(tactic| walk_at "nm") => `(tactic| first
  | ((with_reducible apply de_at 0 nm0); rfl)
  | ((with_reducible apply de_at 1 nm1); rfl)
  | ((with_reducible apply de_at 2 nm2); rfl)
  | ((with_reducible apply de_at 3 nm3); rfl)
  | ((with_reducible apply de_at 4 nm4); rfl)
  | ((with_reducible apply de_at 5 nm5); rfl)
  | ((with_reducible apply de_at 6 nm6); rfl)
  | ((with_reducible apply de_at 7 nm7); rfl)
  | ((with_reducible apply de_at 8 nm8); rfl)
  | ((with_reducible apply de_at 9 nm9); rfl)
  | ((with_reducible apply de_at 10 nm10); rfl)
  | ((with_reducible apply de_at 11 nm11); rfl)
  | ((with_reducible apply de_at 12 nm12); rfl)
  | ((with_reducible apply de_at 13 nm13); rfl)
  | ((with_reducible apply de_at 14 nm14); rfl)
  | ((with_reducible apply de_at 15 nm15); rfl))
set_option hygiene false in
local macro_rules | `(tactic| walk_at "gf") => `(tactic| first | (with_reducible apply de_gf gf0) | (with_reducible apply de_gf gf1) | (with_reducible apply de_gf gf2) | (with_reducible apply de_gf gf3) | (with_reducible apply de_gf gf4) | (with_reducible apply de_gf gf5))
set_option hygiene false in
local macro_rules | `(tactic| walk_at "ev") => `(tactic| first
  | walk_at "nm" | exact de_int | exact de_bool | exact de_non
  | (apply de_add; walk_at "ev"; walk_at "ev") | (apply de_sub; walk_at "ev"; walk_at "ev")
  | (apply de_mul; walk_at "ev"; walk_at "ev"; walk_at "side")
  | (apply de_mod; walk_at "ev"; walk_at "ev"; walk_at "side")
  | (apply de_fdiv; walk_at "ev"; walk_at "ev"; walk_at "side")
  | (apply de_ixT0; walk_at "ev"; rfl)
  | (apply de_ixL0; walk_at "ev"; rfl)
  | (apply de_cmp cmp_eq; walk_at "ev"; walk_at "ev") | (apply de_cmp cmp_ne; walk_at "ev"; walk_at "ev") | (apply de_cmp cmp_lt; walk_at "ev"; walk_at "ev")
  | (apply de_cmp cmp_le; walk_at "ev"; walk_at "ev") | (apply de_cmp cmp_gt; walk_at "ev"; walk_at "ev")
  | (apply de_chain cmp_le cmp_le (by with_unfolding_all rfl); walk_at "ev"; walk_at "ev"; walk_at "ev")
  | (apply de_one; walk_at "ev")
  | (apply de_and; walk_at "ev"; (intro _); walk_at "ev")
  | (apply de_or; walk_at "ev"; (intro _); walk_at "ev")
  | (apply de_not; walk_at "ev")
  | (apply de_tup; walk_at "evs"; exact len_ok rfl)
  | (apply de_lst; walk_at "evs"; exact len_ok rfl)
  | (apply de_min2 hcalm gmin mmin; walk_at "ev"; walk_at "ev"; rfl; rfl) | (apply de_max2 hcalm gmax mmax; walk_at "ev"; walk_at "ev"; rfl; rfl)
  | (walk_at "gf"; walk_at "evs"; walk_at "call"; rfl; rfl; rfl))
set_option hygiene false in
local macro_rules | `(tactic| walk_at "evs") => `(tactic| first | exact da_nil | (apply da_cons; walk_at "ev"; walk_at "evs"; rfl))
set_option hygiene false in
local macro_rules | `(tactic| walk_at "et") => `(tactic| first
  | (apply dt_cmp cmp_eq; walk_at "ev"; walk_at "ev") | (apply dt_cmp cmp_ne; walk_at "ev"; walk_at "ev") | (apply dt_cmp cmp_lt; walk_at "ev"; walk_at "ev")
  | (apply dt_cmp cmp_le; walk_at "ev"; walk_at "ev") | (apply dt_cmp cmp_gt; walk_at "ev"; walk_at "ev")
  | (apply dt_eqP hu64; walk_at "ev"; walk_at "ev") | (apply dt_in hu1; walk_at "ev"; walk_at "ev"; rfl) | (apply dt_notin hu1; walk_at "ev"; walk_at "ev"; rfl)
  | (apply dt_not; walk_at "et")
  | (apply dt_w; walk_at "ew")
  | (apply dt_val; walk_at "ev"; (intro _); rfl))
set_option hygiene false in
local macro_rules | `(tactic| walk_at "ew") => `(tactic| first
  | (apply dw_and1; walk_at "et") | (apply dw_or1; walk_at "et")
  | (apply dw_and; walk_at "et"; (intro _); walk_at "ew")
  | (apply dw_or; walk_at "et"; (intro _); walk_at "ew"))
local macro_rules | `(tactic| walk_at "call") => `(tactic| (constructor <;> walk_at "side"))
/-! ### data -/
def mn (a c : Int) : Int := if c < a then c else a
def mx (a c : Int) : Int := if c > a then c else a
def btw (a b c d x y : Int) : Bool :=
  if (decide (x = a ∧ y = b) || (decide (x = c ∧ y = d) || !decide (crs a b c d x y = 0))) = true then false
  else if (decide (x < mn a c) || decide (mx a c < x)) = true then false
  else decide (mn b d ≤ y) && decide (y ≤ mx b d)
inductive RBtw : List Dt → Dt → Prop
  | mk {a b c d x y : Int} (h1 : Sm a) (h2 : Sm b) (h3 : Sm c) (h4 : Sm d) (h5 : Sm x) (h6 : Sm y) : RBtw [pt a b, pt c d, pt x y] (.bool (btw a b c d x y))
inductive RSide : List Dt → Dt → Prop
  | mk {a b c d : Int} {ks : List (Int × Int)} (h1 : Sm a) (h2 : Sm b) (h3 : Sm c) (h4 : Sm d) (h : ∀ p ∈ ks, btw a b c d p.1 p.2 = false) : RSide [pt a b, pt c d, .dct ks] (.bool true)
def placesL (w d s : Int) : List (Int × Int) := (List.range (w * s + 1).toNat).flatMap fun x : Nat => (List.range (d * s + 1).toNat).map fun y : Nat => ((x : Int), (y : Int))
structure Small (w d s : Int) : Prop where
  w : 0 < w ∧ w ≤ 8
  d : 0 < d ∧ d ≤ 8
  s : Sd s
theorem Small.s0 {w d s : Int} (h : Small w d s) : 0 < s ∧ s ≤ 8 := by
  rcases h.s with e | e | e <;> omega
theorem Small.ws {w d s : Int} (h : Small w d s) : 0 < w * s ∧ w * s ≤ 64 := by
  have h1 := h.w
  rcases h.s with e | e | e <;> subst e <;> omega
theorem Small.ds {w d s : Int} (h : Small w d s) : 0 < d * s ∧ d * s ≤ 64 := by
  have h1 := h.d
  rcases h.s with e | e | e <;> subst e <;> omega
theorem flat_len {α β : Type} (f : α → List β) (n : Nat) : ∀ l : List α, (∀ a ∈ l, (f a).length ≤ n) → (l.flatMap f).length ≤ l.length * n
  | [], _ => by simp
  | a :: l, h => by
    have h1 := h a List.mem_cons_self
    have h2 := flat_len f n l fun b hb => h b (List.mem_cons_of_mem _ hb)
    rw [List.flatMap_cons, List.length_append, List.length_cons, Nat.succ_mul]
    omega
theorem places_len {w d s : Int} (h : Small w d s) : (placesL w d s).length ≤ 4225 := by
  have h1 := h.ws
  have h2 := h.ds
  have h3 := flat_len (fun x : Nat => (List.range (d * s + 1).toNat).map fun y : Nat => ((x : Int), (y : Int))) 65 (List.range (w * s + 1).toNat) fun a _ => by rw [List.length_map, List.length_range]; omega
  rw [List.length_range] at h3
  have h4 : (w * s + 1).toNat * 65 ≤ 65 * 65 := Nat.mul_le_mul_right _ (by omega)
  exact Nat.le_trans h3 h4
inductive RPlaces : List Dt → Dt → Prop
  | mk {w d s : Int} (h : Small w d s) : RPlaces [pl w d s] (.lst (ptsD (placesL w d s)))
def cutsL (w d s : Int) : List (Int × Int) := (placesL w d s).filter fun q => !onC s q.1 q.2
inductive RCuts : List Dt → Dt → Prop
  | mk {w d s : Int} (h : Small w d s) : RCuts [pl w d s] (.lst (ptsD (cutsL w d s)))
/-! trees -/
structure T6 where
  a : Int
  b : Int
  c : Int
  d : Int
  e : Int
  f : Int
deriving DecidableEq
abbrev trD (t : T6) : Dt := tr t.a t.b t.c t.d t.e t.f
def rootsT (i j s : Int) : List T6 := if (i + j) % 2 = 0 then [⟨i * s, j * s, i * s + s, j * s + s, i * s + s, j * s⟩, ⟨i * s + s, j * s + s, i * s, j * s, i * s, j * s + s⟩]
  else [⟨i * s + s, j * s, i * s, j * s + s, i * s + s, j * s + s⟩, ⟨i * s, j * s + s, i * s + s, j * s, i * s, j * s⟩]
theorem dRoots_eq (i j s : Int) : dRoots i j s = .lst ((rootsT i j s).map trD) := by
  unfold dRoots rootsT
  split <;> rfl
def rootsF (w d s : Int) : List T6 := (List.range w.toNat).flatMap fun i : Nat => (List.range d.toNat).flatMap fun j : Nat => rootsT i j s
inductive RRoots : List Dt → Dt → Prop
  | mk {w d s : Int} (h : Small w d s) : RRoots [pl w d s] (.lst ((rootsF w d s).map trD))
inductive RNoted : List Dt → Dt → Prop
  | mk {w d s : Int} {ps : List (Int × Int)} (h : Small w d s) (hl : ps.length ≤ 5000) (hp : ∀ p ∈ ps, inB w d s p.1 p.2 = true ∧ onC s p.1 p.2 = false) : RNoted [pl w d s, .lst (ptsD ps)] (.dct ((sortP ps).foldl putP []))
inductive RCrack : List Dt → Dt → Prop
  | mk {w d s : Int} {ps : List (Int × Int)} (h : Small w d s) (hl : ps.length ≤ 5000) (hp : ∀ p ∈ ps, inB w d s p.1 p.2 = true ∧ onC s p.1 p.2 = false) (hc : ∀ p ∈ ps, ∀ q ∈ parsE w d s p.1 p.2, q ∈ ps) : RCrack [pl w d s, .lst (ptsD ps)] .non
theorem mem_putP {ks : List (Int × Int)} {p q : Int × Int} : q ∈ putP ks p ↔ q ∈ ks ∨ q = p := by
  unfold putP
  split
  · exact ⟨.inl, fun h => h.elim id fun e => by rw [e]; assumption⟩
  · rw [List.mem_append, List.mem_singleton]
theorem mem_foldP : ∀ (ps : List (Int × Int)) (ks : List (Int × Int)) (q : Int × Int), q ∈ ps.foldl putP ks ↔ q ∈ ks ∨ q ∈ ps
  | [], ks, q => by simp
  | p :: ps, ks, q => by
    rw [List.foldl_cons, mem_foldP ps, mem_putP, List.mem_cons]
    constructor
    · rintro ((h | h) | h)
      · exact .inl h
      · exact .inr (.inl h)
      · exact .inr (.inr h)
    · rintro (h | h | h)
      · exact .inl (.inl h)
      · exact .inl (.inr h)
      · exact .inr h
theorem mn_sm {a c : Int} (h1 : Sm a) (h2 : Sm c) : Sm (mn a c) := by
  unfold mn
  split <;> omega
theorem mx_sm {a c : Int} (h1 : Sm a) (h2 : Sm c) : Sm (mx a c) := by
  unfold mx
  split <;> omega
section
variable {P : Program} {w : World} {K : PySem.W.Frag} {mg : Str → Option Value} {base : Heap}
theorem sc_ok_between : FnScope ["_law_one", "_law_two", "_law_at"] ["_law_one", "_law_two", "_law_at"] (defScope sBetween) := ⟨rfl, rfl, rfl, by decide +kernel, rfl, by decide +kernel, by decide +kernel⟩
theorem ok_between {f : Addr} {fd : FuncData} (F : Fun K "_law_between" "_law_between" sBetween f fd) (gX : Fn P w K mg base 1 "_law_cross" 3 (spD 3 RCross)) (m_min : mg "min" = Option.none) (m_max : mg "max" = Option.none) : FnOk P w K mg base CX0 2 f fd ["_law_one", "_law_two", "_law_at"] (spD 3 RBtw) := by
  refine fn_ok' F sc_ok_between (by decide) fun X b ds r hl hR => ?_
  cases hR with | @mk a1 b1 c1 d1 x y h1 h2 h3 h4 h5 h6 => ?_
  have nm0 := b.nm 0 "_law_one" rfl (.inl rfl) (by decide) (by decide)
  have nm1 := b.nm 1 "_law_two" rfl (.inl rfl) (by decide) (by decide)
  have nm2 := b.nm 2 "_law_at" rfl (.inl rfl) (by decide) (by decide)
  have gf0 := b.gf gX (by decide) rfl (by decide)
  have hcalm := b.calm
  have hr0 := b.room.un
  have hu1 : X.A.units + 1 < cLine := by omega
  have hu64 : X.A.units + 64 < cLine := by omega
  have hu65 : X.A.units + 65 < cLine := by omega
  have gmin : Gl X "min" := b.gl rfl
  have mmin : X.mg "min" = Option.none := by rw [b.m_]; exact m_min
  have gmax : Gl X "max" := b.gl rfl
  have mmax : X.mg "max" = Option.none := by rw [b.m_]; exact m_max
  conv in defBody _ => whnf
  unfold btw
  apply ss_ifR (k := (decide (x = a1 ∧ y = b1) || (decide (x = c1 ∧ y = d1) || !decide (crs a1 b1 c1 d1 x y = 0))))
  · walk_at "et"
  · intro k
    rw [if_pos k]
    exact ss_last (s1_ret de_bool)
  intro k
  rw [if_neg (by rw [k]; decide)]
  apply ss_ifR (k := (decide (x < mn a1 c1) || decide (mx a1 c1 < x)))
  · walk_at "et"
  · intro k
    rw [if_pos k]
    exact ss_last (s1_ret de_bool)
  intro k
  rw [if_neg (by rw [k]; decide)]
  exact ss_last (s1_ret (by walk_at "ev"))
theorem sc_ok_side : FnScope ["_law_one", "_law_two", "_law_spots", "_law_x", "_law_y"] ["_law_one", "_law_two", "_law_spots"] (defScope sSideClean) := ⟨rfl, rfl, rfl, by decide +kernel, rfl, by decide +kernel, by decide +kernel⟩
theorem ok_side {f : Addr} {fd : FuncData} (F : Fun K "_law_side_clean" "_law_side_clean" sSideClean f fd) (gB : Fn P w K mg base 2 "_law_between" 3 (spD 3 RBtw)) (m_min : mg "min" = Option.none) (m_max : mg "max" = Option.none) (m_range : mg "range" = Option.none) : FnOk P w K mg base CX0 3 f fd ["_law_one", "_law_two", "_law_spots"] (spD 3 RSide) := by
  refine fn_okS F sc_ok_side (by decide) fun X b ds r hl hR => ?_
  cases hR with | @mk a1 b1 c1 d1 ks h1 h2 h3 h4 h => ?_
  have nm0 := b.nm 0 "_law_one" rfl (.inl rfl) (by decide) (by decide)
  have nm1 := b.nm 1 "_law_two" rfl (.inl rfl) (by decide) (by decide)
  have nm2 := b.nm 2 "_law_spots" rfl (.inl rfl) (by decide) (by decide)
  have nm3 := b.nm 3 "_law_x" rfl (.inl rfl) (by decide) (by decide)
  have nm4 := b.nm 4 "_law_y" rfl (.inl rfl) (by decide) (by decide)
  have ls3 := b.ls 3 "_law_x" rfl (.inl rfl)
  have ls4 := b.ls 4 "_law_y" rfl (.inl rfl)
  have gf0 := b.gf gB (by decide) rfl (by decide)
  have hcalm := b.calm
  have hr0 := b.room.un
  have hu1 : X.A.units + 1 < cLine := by omega
  have hu64 : X.A.units + 64 < cLine := by omega
  have hu65 : X.A.units + 65 < cLine := by omega
  have gmin : Gl X "min" := b.gl rfl
  have mmin : X.mg "min" = Option.none := by rw [b.m_]; exact m_min
  have gmax : Gl X "max" := b.gl rfl
  have mmax : X.mg "max" = Option.none := by rw [b.m_]; exact m_max
  have grange : Gl X "range" := b.gl rfl
  have mrange : X.mg "range" = Option.none := by rw [b.m_]; exact m_range
  conv in defBody _ => whnf
  have hx1 := mn_sm h1 h3
  have hx2 := mx_sm h1 h3
  have hy1 := mn_sm h2 h4
  have hy2 := mx_sm h2 h4
  refine sm_forI (fun E M => M = [] ∧ ∃ o3 o4, E = [some (pt a1 b1), some (pt c1 d1), some (.dct ks), o3, o4]) b.own b.calm ls3 (id_range2 (lo := mn a1 c1) (hi := mx a1 c1 + 1) grange mrange ?_ ?_ (by omega) (by omega) (by omega) (by omega) rfl rfl) (fun _ => rfl) ⟨rfl, none, none, rfl⟩ (fun dd hd E M hI => ?_) (fun E' M' hI => ?_)
  · walk_at "ev"
  · walk_at "ev"
  · obtain ⟨rfl, o3, o4, rfl⟩ := hI
    obtain ⟨n, hn, rfl⟩ := List.mem_map.mp hd
    have hn' := List.mem_range.mp hn
    have hx : Sm (mn a1 c1 + (n : Int)) := by omega
    generalize mn a1 c1 + (n : Int) = x at hx
    refine ex_forI (fun E M => M = [] ∧ ∃ o4, E = [some (pt a1 b1), some (pt c1 d1), some (.dct ks), some (.int x), o4]) b.own b.calm ls4 (id_range2 (lo := mn b1 d1) (hi := mx b1 d1 + 1) grange mrange ?_ ?_ (by omega) (by omega) (by omega) (by omega) rfl rfl) (fun _ => rfl) ⟨rfl, o4, rfl⟩ (fun dd hd E M hI => ?_) (fun E' M' hI => ?_)
    · walk_at "ev"
    · walk_at "ev"
    · obtain ⟨rfl, o5, rfl⟩ := hI
      obtain ⟨m, hm, rfl⟩ := List.mem_map.mp hd
      have hm' := List.mem_range.mp hm
      have hy : Sm (mn b1 d1 + (m : Int)) := by omega
      generalize mn b1 d1 + (m : Int) = y at hy
      refine ⟨_, _, ⟨rfl, some (.int y), rfl⟩, sm_cons (sm1_ifF (tm_ ?_) sm_nil) sm_nil⟩
      apply DT.is (b := decide ((x, y) ∈ ks) && btw a1 b1 c1 d1 x y)
      · walk_at "et"
      · cases hm : decide ((x, y) ∈ ks) with
        | false => rfl
        | true => rw [h _ (of_decide_eq_true hm)]; rfl
    · obtain ⟨rfl, o5, rfl⟩ := hI
      exact ⟨_, _, ⟨rfl, _, _, rfl⟩, sm_nil⟩
  · obtain ⟨rfl, o3, o4, rfl⟩ := hI
    exact sm_last (sm1_ret (dm_ de_bool))
end
end Br

-- BrF
namespace Br
open PySem L2 PySem.Spec PyProof.Rows
local macro_rules | `(tactic| walk_at "side") => `(tactic| first | assumption | omega | decide | (left; constructor <;> omega) | (right; constructor <;> omega) | (constructor <;> omega))
set_option hygiene false in
local macro_rules | `(tactic| walk_at "nm") => `(tactic| first
  | ((with_reducible apply de_at 0 nm0); rfl)
  | ((with_reducible apply de_at 1 nm1); rfl)
  | ((with_reducible apply de_at 2 nm2); rfl)
  | ((with_reducible apply de_at 3 nm3); rfl)
  | ((with_reducible apply de_at 4 nm4); rfl)
  | ((with_reducible apply de_at 5 nm5); rfl)
  | ((with_reducible apply de_at 6 nm6); rfl)
  | ((with_reducible apply de_at 7 nm7); rfl)
  | ((with_reducible apply de_at 8 nm8); rfl)
  | ((with_reducible apply de_at 9 nm9); rfl)
  | ((with_reducible apply de_at 10 nm10); rfl)
  | ((with_reducible apply de_at 11 nm11); rfl)
  | ((with_reducible apply de_at 12 nm12); rfl)
  | ((with_reducible apply de_at 13 nm13); rfl)
  | ((with_reducible apply de_at 14 nm14); rfl)
  | ((with_reducible apply de_at 15 nm15); rfl))
set_option hygiene false in
local macro_rules | `(tactic| walk_at "gf") => `(tactic| first | (with_reducible apply de_gf gf0) | (with_reducible apply de_gf gf1) | (with_reducible apply de_gf gf2) | (with_reducible apply de_gf gf3) | (with_reducible apply de_gf gf4) | (with_reducible apply de_gf gf5))
set_option hygiene false in
local macro_rules | `(tactic| walk_at "ev") => `(tactic| first
  | walk_at "nm" | exact de_int | exact de_bool | exact de_non
  | (apply de_add; walk_at "ev"; walk_at "ev") | (apply de_sub; walk_at "ev"; walk_at "ev")
  | (apply de_mul; walk_at "ev"; walk_at "ev"; walk_at "side")
  | (apply de_mod; walk_at "ev"; walk_at "ev"; walk_at "side")
  | (apply de_fdiv; walk_at "ev"; walk_at "ev"; walk_at "side")
  | (apply de_ixT0; walk_at "ev"; rfl)
  | (apply de_ixL0; walk_at "ev"; rfl)
  | (apply de_cmp cmp_eq; walk_at "ev"; walk_at "ev") | (apply de_cmp cmp_ne; walk_at "ev"; walk_at "ev") | (apply de_cmp cmp_lt; walk_at "ev"; walk_at "ev")
  | (apply de_cmp cmp_le; walk_at "ev"; walk_at "ev") | (apply de_cmp cmp_gt; walk_at "ev"; walk_at "ev")
  | (apply de_chain cmp_le cmp_le (by with_unfolding_all rfl); walk_at "ev"; walk_at "ev"; walk_at "ev")
  | (apply de_one; walk_at "ev")
  | (apply de_and; walk_at "ev"; (intro _); walk_at "ev")
  | (apply de_or; walk_at "ev"; (intro _); walk_at "ev")
  | (apply de_not; walk_at "ev")
  | (apply de_tup; walk_at "evs"; exact len_ok rfl)
  | (apply de_lst; walk_at "evs"; exact len_ok rfl)
  | (apply de_min2 hcalm gmin mmin; walk_at "ev"; walk_at "ev"; rfl; rfl) | (apply de_max2 hcalm gmax mmax; walk_at "ev"; walk_at "ev"; rfl; rfl)
  | (walk_at "gf"; walk_at "evs"; walk_at "call"; rfl; rfl; rfl))
set_option hygiene false in
local macro_rules | `(tactic| walk_at "evs") => `(tactic| first | exact da_nil | (apply da_cons; walk_at "ev"; walk_at "evs"; rfl))
set_option hygiene false in
local macro_rules | `(tactic| walk_at "et") => `(tactic| first
  | (apply dt_cmp cmp_eq; walk_at "ev"; walk_at "ev") | (apply dt_cmp cmp_ne; walk_at "ev"; walk_at "ev") | (apply dt_cmp cmp_lt; walk_at "ev"; walk_at "ev")
  | (apply dt_cmp cmp_le; walk_at "ev"; walk_at "ev") | (apply dt_cmp cmp_gt; walk_at "ev"; walk_at "ev")
  | (apply dt_eqP hu64; walk_at "ev"; walk_at "ev") | (apply dt_in hu1; walk_at "ev"; walk_at "ev"; rfl) | (apply dt_notin hu1; walk_at "ev"; walk_at "ev"; rfl)
  | (apply dt_not; walk_at "et")
  | (apply dt_w; walk_at "ew")
  | (apply dt_val; walk_at "ev"; (intro _); rfl))
set_option hygiene false in
local macro_rules | `(tactic| walk_at "ew") => `(tactic| first
  | (apply dw_and1; walk_at "et") | (apply dw_or1; walk_at "et")
  | (apply dw_and; walk_at "et"; (intro _); walk_at "ew")
  | (apply dw_or; walk_at "et"; (intro _); walk_at "ew"))
local macro_rules | `(tactic| walk_at "call") => `(tactic| (constructor <;> walk_at "side"))
theorem sd_sm {s : Int} (h : Sd s) : Sm s := by rcases h with e | e | e <;> (subst e; decide)
theorem ints_len (lo : Int) (n : Nat) : ((List.range n).map fun k : Nat => Dt.int (lo + (k : Int))).length = n := by rw [List.length_map, List.length_range]
theorem map_flat {α β γ : Type} (g : β → γ) (f : α → List β) : ∀ l : List α, (l.flatMap f).map g = l.flatMap fun a => (f a).map g
  | [] => rfl
  | a :: l => by rw [List.flatMap_cons, List.map_append, map_flat g f l, List.flatMap_cons]
theorem flat_map {α β γ : Type} (g : α → β) (f : β → List γ) : ∀ l : List α, (l.map g).flatMap f = l.flatMap fun a => f (g a)
  | [] => rfl
  | a :: l => by rw [List.map_cons, List.flatMap_cons, flat_map g f l, List.flatMap_cons]
theorem flat_same {α β : Type} {f g : α → List β} : ∀ {l : List α}, (∀ a ∈ l, f a = g a) → l.flatMap f = l.flatMap g
  | [], _ => rfl
  | a :: l, h => by rw [List.flatMap_cons, List.flatMap_cons, h a List.mem_cons_self, flat_same fun b hb => h b (List.mem_cons_of_mem _ hb)]
theorem flat_ones {α β : Type} (g : α → β) : ∀ l : List α, (l.flatMap fun a => [g a]) = l.map g
  | [] => rfl
  | a :: l => by rw [List.flatMap_cons, flat_ones g l]; rfl
def getI : Dt → Int
  | .int i => i
  | _ => 0
section
variable {P : Program} {w : World} {K : PySem.W.Frag} {mg : Str → Option Value} {base : Heap}
theorem sc_ok_places : FnScope ["_law_plan_here", "_law_found", "_law_x", "_law_y"] ["_law_plan_here"] (defScope sPlaces) := ⟨rfl, rfl, rfl, by decide +kernel, rfl, by decide +kernel, by decide +kernel⟩
theorem ok_places {f : Addr} {fd : FuncData} (F : Fun K "_law_places" "_law_places" sPlaces f fd) (m_range : mg "range" = Option.none) : FnOk P w K mg base CX0 1 f fd ["_law_plan_here"] (spD 1 RPlaces) := by
  refine fn_okS F sc_ok_places (by decide) fun X b ds r hl hR => ?_
  cases hR with | @mk w d s h => ?_
  have nm0 := b.nm 0 "_law_plan_here" rfl (.inl rfl) (by decide) (by decide)
  have nm1 := b.nm 1 "_law_found" rfl (.inl rfl) (by decide) (by decide)
  have nm2 := b.nm 2 "_law_x" rfl (.inl rfl) (by decide) (by decide)
  have nm3 := b.nm 3 "_law_y" rfl (.inl rfl) (by decide) (by decide)
  have ls1 := b.ls 1 "_law_found" rfl (.inl rfl)
  have ls2 := b.ls 2 "_law_x" rfl (.inl rfl)
  have ls3 := b.ls 3 "_law_y" rfl (.inl rfl)
  have hcalm := b.calm
  have hr0 := b.room.un
  have hu1 : X.A.units + 1 < cLine := by omega
  have hu64 : X.A.units + 64 < cLine := by omega
  have hu65 : X.A.units + 65 < cLine := by omega
  have grange : Gl X "range" := b.gl rfl
  have mrange : X.mg "range" = Option.none := by rw [b.m_]; exact m_range
  conv in defBody _ => whnf
  have hws := h.ws
  have hds := h.ds
  have hw1 := h.w
  have hd1 := h.d
  have hs1 := h.s0
  have wn : ((w * s + 1).toNat : Int) = w * s + 1 := by omega
  have dn : ((d * s + 1).toNat : Int) = d * s + 1 := by omega
  have g2 : placesL w d s = (List.range (w * s + 1).toNat).flatMap fun x : Nat => (List.range (d * s + 1).toNat).map fun y : Nat => ((x : Int), (y : Int)) := rfl
  have hpl := places_len h
  refine sm_new 1 ls1 (nw_lst da_nil (Nat.zero_le _)) rfl fun D => ?_
  refine sm_forA (acc := []) (fun E => ∃ o2 o3, E = [some (pl w d s), some (.raw (.ref D)), o2, o3]) (fun l => [(D, .lst l)]) (fun dx => (List.range (d * s + 1).toNat).map fun y : Nat => pt (getI dx) (y : Int)) 5000 b.own b.calm ls2 (id_range1 (n := (w * s + 1).toNat) grange mrange ?_ (by omega) rfl) (fun _ => rfl) ⟨none, none, rfl⟩ ?_ (fun dd hd acc E hI hB => ?_) (fun E' hI => ?_)
  · apply dm_
    rw [wn]
    walk_at "ev"
  · rw [List.nil_append, flat_map]
    refine Nat.le_trans (flat_len _ 65 _ fun a _ => by rw [List.length_map, List.length_range]; omega) ?_
    rw [List.length_range]
    exact Nat.le_trans (Nat.mul_le_mul_right 65 (show (w * s + 1).toNat ≤ 65 by omega)) (by decide)
  · obtain ⟨o2, o3, rfl⟩ := hI
    obtain ⟨n, hn, rfl⟩ := List.mem_map.mp hd
    have hn' := List.mem_range.mp hn
    rw [show (List.range (d * s + 1).toNat).map (fun y : Nat => pt (getI (.int (0 + (n : Int)))) (y : Int)) = ((List.range (d * s + 1).toNat).map fun k : Nat => Dt.int (0 + (k : Int))).flatMap fun dy => [pt (0 + (n : Int)) (getI dy)] by
      rw [flat_map, flat_ones]
      exact List.map_congr_left fun y _ => by simp only [getI, Int.zero_add]] at hB ⊢
    refine ex_forA (fun E => ∃ o3, E = [some (pl w d s), some (.raw (.ref D)), some (.int (0 + (n : Int))), o3]) (fun l => [(D, .lst l)]) (fun dy => [pt (0 + (n : Int)) (getI dy)]) 5000 b.own b.calm ls3 (id_range1 (n := (d * s + 1).toNat) grange mrange ?_ (by omega) rfl) (fun _ => rfl) ⟨o3, rfl⟩ hB (fun dd hd acc E hI hB => ?_) (fun E' hI => ?_)
    · apply dm_
      rw [dn]
      walk_at "ev"
    · obtain ⟨o3, rfl⟩ := hI
      obtain ⟨m, hm, rfl⟩ := List.mem_map.mp hd
      rw [List.length_append, List.length_singleton] at hB
      have hz : acc.length < sizeLine := Nat.lt_of_lt_of_le (show acc.length < 5000 by omega) (by decide)
      refine ⟨_, ⟨some (.int (0 + (m : Int))), rfl⟩, sm_cons (sm1_expr (dm_append (m := 0) (D := D) (ds := acc) (d := pt (0 + (n : Int)) (0 + (m : Int))) ?_ rfl (dm_ ?_) rfl hz ⟨rfl, rfl, rfl, rfl⟩) rfl) sm_nil⟩
      · walk_at "ev"
      · walk_at "ev"
    · obtain ⟨o3, rfl⟩ := hI
      exact ⟨_, ⟨_, _, rfl⟩, sm_nil⟩
  · obtain ⟨o2, o3, rfl⟩ := hI
    rw [List.nil_append, flat_map, show ((List.range (w * s + 1).toNat).flatMap fun a : Nat => (List.range (d * s + 1).toNat).map fun y : Nat => pt (getI (.int (0 + (a : Int)))) (y : Int)) = ptsD (placesL w d s) by
      rw [g2, ptsD, map_flat]
      exact flat_same fun a _ => by
        rw [List.map_map]
        exact List.map_congr_left fun y _ => by simp only [getI, Int.zero_add, Function.comp]]
    refine sm_freeze (M := []) (D := D) (cc := .lst (ptsD (placesL w d s))) 1 rfl (sm_rt (ss_last (s1_ret ?_)))
    walk_at "ev"
theorem sc_ok_cuts : FnScope ["_law_plan_here", "_law_at"] ["_law_plan_here"] (defScope sCuts) := ⟨rfl, rfl, rfl, by decide +kernel, rfl, by decide +kernel, by decide +kernel⟩
theorem ok_cuts {f : Addr} {fd : FuncData} (F : Fun K "_law_cuts" "_law_cuts" sCuts f fd) (gP : Fn P w K mg base 1 "_law_places" 1 (spD 1 RPlaces)) (gC : Fn P w K mg base 1 "_law_corner" 2 (spD 2 ROnC)) : FnOk P w K mg base CX0 2 f fd ["_law_plan_here"] (spD 1 RCuts) := by
  refine fn_ok' F sc_ok_cuts (by decide) fun X b ds r hl hR => ?_
  cases hR with | @mk w d s h => ?_
  have nm0 := b.nm 0 "_law_plan_here" rfl (.inr (.inl rfl)) (by decide) (by decide)
  have gf0 := b.gf gP (by decide) rfl (by decide)
  conv in defBody _ => whnf
  have hs1 := h.s0
  have hpl := places_len h
  apply ss_last
  apply s1_ret
  apply DE.is
  · apply de_lcL (f := ptF fun a b => !onC s a b) (g := id) b.calm (by rw [b.n_]; exact b.nd) (blkOk_by (by rw [b.n_, b.sc]; decide +kernel)) (blk_pg (i := 1) (by rw [b.n_]; exact b.nd) (by rw [b.n_]; rfl) rfl (by rw [b.sc]; exact .inl rfl) (by rw [b.sc]; rfl)) (by decide) (fun _ => rfl)
    · walk_at "ev"
    · show (ptsD (placesL w d s)).length < sizeLine
      rw [List.length_map]
      exact Nat.lt_of_le_of_lt hpl (by decide)
    intro q hq
    obtain ⟨⟨a, c⟩, _, rfl⟩ := List.mem_map.mp hq
    refine ⟨.one fun cx cb => ?_, fun _ cx cb => ?_⟩
    · skip
      have nm0 := cb.nm 0 "_law_plan_here" (by rw [b.n_]; rfl) (by rw [b.sc]; exact .inr (.inl rfl)) (by decide) (by decide)
      have nm1 := cb.nm 1 "_law_at" (by rw [b.n_]; rfl) (by rw [b.sc]; exact .inl rfl) (by decide) (by decide)
      have gf0 := cb.gfn b gC (by decide) rfl (by decide)
      apply DT.is
      · walk_at "et"
      · rfl
    · skip
      have nm0 := cb.nm 0 "_law_plan_here" (by rw [b.n_]; rfl) (by rw [b.sc]; exact .inr (.inl rfl)) (by decide) (by decide)
      have nm1 := cb.nm 1 "_law_at" (by rw [b.n_]; rfl) (by rw [b.sc]; exact .inl rfl) (by decide) (by decide)
      have gf0 := cb.gfn b gC (by decide) rfl (by decide)
      walk_at "ev"
  · exact congrArg Dt.lst (ptF_pts _ _)
theorem sc_ok_roots : FnScope ["plan", "wide", "deep", "side", "root", "i", "j"] ["plan"] (defScope sRoots) := ⟨rfl, rfl, rfl, by decide +kernel, rfl, by decide +kernel, by decide +kernel⟩
theorem ok_roots {f : Addr} {fd : FuncData} (F : Fun K "roots" "roots" sRoots f fd) (gR : Fn P w K mg base 1 "roots_of" 3 (spD 3 RRootsOf)) (m_range : mg "range" = Option.none) : FnOk P w K mg base CX0 2 f fd ["plan"] (spD 1 RRoots) := by
  refine fn_ok' F sc_ok_roots (by decide) fun X b ds r hl hR => ?_
  cases hR with | @mk w d s h => ?_
  have nm0 := b.nm 0 "plan" rfl (.inl rfl) (by decide) (by decide)
  have nm1 := b.nm 1 "wide" rfl (.inl rfl) (by decide) (by decide)
  have nm2 := b.nm 2 "deep" rfl (.inr (.inl rfl)) (by decide) (by decide)
  have nm3 := b.nm 3 "side" rfl (.inr (.inl rfl)) (by decide) (by decide)
  have ls1 := b.ls 1 "wide" rfl (.inl rfl)
  have ls2 := b.ls 2 "deep" rfl (.inr rfl)
  have ls3 := b.ls 3 "side" rfl (.inr rfl)
  have hcalm := b.calm
  have hr0 := b.room.un
  have hu1 : X.A.units + 1 < cLine := by omega
  have hu64 : X.A.units + 64 < cLine := by omega
  have hu65 : X.A.units + 65 < cLine := by omega
  have grange : Gl X "range" := b.gl rfl
  have mrange : X.mg "range" = Option.none := by rw [b.m_]; exact m_range
  conv in defBody _ => whnf
  have hw1 := h.w
  have hd1 := h.d
  have hs1 := sd_sm h.s
  have wn : (w.toNat : Int) = w := by omega
  have dn : (d.toNat : Int) = d := by omega
  apply ss_cons
  · apply s1_unpack (is := [1, 2, 3]) b.calm ls1.nd
    · walk_at "ev"
    · exact ⟨ls1.n, ls1.l, ls1.f, fun _ => rfl, ls2.n, ls2.l, ls2.f, fun _ => rfl, ls3.n, ls3.l, ls3.f, fun _ => rfl, trivial⟩
    all_goals rfl
  apply ss_last
  apply s1_ret
  apply DE.is
  · refine de_lc3 (i := 5) (j := 6) (l := 4) (ds0 := (List.range w.toNat).map fun k : Nat => Dt.int ((0 : Int) + (k : Int))) (ds1 := (List.range d.toNat).map fun k : Nat => Dt.int ((0 : Int) + (k : Int))) (g := fun d0 d1 => (rootsT (getI d0) (getI d1) s).map trD) b.calm (by rw [b.n_]; exact b.nd) (blkOk_by (by rw [b.n_, b.sc]; decide +kernel))
      (blk_pg (i := 5) (by rw [b.n_]; exact b.nd) (by rw [b.n_]; rfl) rfl (by rw [b.sc]; exact .inl rfl) (by rw [b.sc]; rfl)) (blk_pg (i := 6) (by rw [b.n_]; exact b.nd) (by rw [b.n_]; rfl) rfl (by rw [b.sc]; exact .inl rfl) (by rw [b.sc]; rfl)) (blk_pg (i := 4) (by rw [b.n_]; exact b.nd) (by rw [b.n_]; rfl) rfl (by rw [b.sc]; exact .inl rfl) (by rw [b.sc]; rfl)) (fun M => ?_) (fun d0 hd0 cx cb M => ?_) (fun d0 hd0 d1 hd1 cx cb M => ?_) (fun d0 hd0 d1 hd1 d2 hd2 cx cb => ?_) ?_ (fun _ => rfl) (fun _ _ => rfl) (fun _ _ => rfl)
    · refine id_range1 grange mrange (dm_ ?_) (by omega) rfl
      rw [wn]
      walk_at "ev"
    · have gr : Gl cx "range" := cb.gl (by rw [b.sc]; rfl)
      have mr : cx.mg "range" = Option.none := by
        obtain ⟨_, _, _, _, _, rfl⟩ := cb.eq
        exact mrange
      have nm2 := cb.nm 2 "deep" (by rw [b.n_]; rfl) (by rw [b.sc]; exact .inr (.inl rfl)) (by decide) (by decide)
      refine id_range1 gr mr (dm_ ?_) (by omega) rfl
      rw [dn]
      apply de_at 2 nm2
      rfl
    · obtain ⟨n, hn, rfl⟩ := List.mem_map.mp hd0
      obtain ⟨m, hm, rfl⟩ := List.mem_map.mp hd1
      have hn' := List.mem_range.mp hn
      have hm' := List.mem_range.mp hm
      have nm3 := cb.nm 3 "side" (by rw [b.n_]; rfl) (by rw [b.sc]; exact .inr (.inl rfl)) (by decide) (by decide)
      have nm5 := cb.nm 5 "i" (by rw [b.n_]; rfl) (by rw [b.sc]; exact .inl rfl) (by decide) (by decide)
      have nm6 := cb.nm 6 "j" (by rw [b.n_]; rfl) (by rw [b.sc]; exact .inl rfl) (by decide) (by decide)
      have gf0 := cb.gfn b gR (by decide) rfl (by decide)
      refine id_list (dm_ ?_)
      apply DE.is (d := dRoots (0 + (n : Int)) (0 + (m : Int)) s)
      · walk_at "ev"
      · exact dRoots_eq _ _ _
    · have nm4 := cb.nm 4 "root" (by rw [b.n_]; rfl) (by rw [b.sc]; exact .inl rfl) (by decide) (by decide)
      apply de_at 4 nm4
      rfl
    · refine Nat.lt_of_le_of_lt (flat_len _ 16 _ fun a _ => Nat.le_trans (flat_len _ 2 _ fun c _ => ?_) ?_) ?_
      · show ((rootsT (getI a) (getI c) s).map trD).length ≤ 2
        rw [List.length_map]
        unfold rootsT
        split <;> exact Nat.le_refl _
      · rw [ints_len]
        omega
      · rw [ints_len]
        exact Nat.lt_of_le_of_lt (Nat.mul_le_mul_right 16 (show w.toNat ≤ 8 by omega)) (by decide)
  · rw [rootsF, map_flat, flat_map]
    refine congrArg Dt.lst (flat_same fun a _ => ?_)
    rw [map_flat, flat_map]
    exact flat_same fun c _ => by simp only [getI, Int.zero_add]
end
end Br

-- BrG
namespace Br
open PySem L2 PySem.Spec PyProof.Rows
local macro_rules | `(tactic| walk_at "side") => `(tactic| first | assumption | omega | decide | (left; constructor <;> omega) | (right; constructor <;> omega) | (constructor <;> omega))
set_option hygiene false in
local macro_rules | `(tactic| walk_at "nm") => `(tactic| first
  | ((with_reducible apply de_at 0 nm0); rfl)
  | ((with_reducible apply de_at 1 nm1); rfl)
  | ((with_reducible apply de_at 2 nm2); rfl)
  | ((with_reducible apply de_at 3 nm3); rfl)
  | ((with_reducible apply de_at 4 nm4); rfl)
  | ((with_reducible apply de_at 5 nm5); rfl)
  | ((with_reducible apply de_at 6 nm6); rfl)
  | ((with_reducible apply de_at 7 nm7); rfl)
  | ((with_reducible apply de_at 8 nm8); rfl)
  | ((with_reducible apply de_at 9 nm9); rfl)
  | ((with_reducible apply de_at 10 nm10); rfl)
  | ((with_reducible apply de_at 11 nm11); rfl)
  | ((with_reducible apply de_at 12 nm12); rfl)
  | ((with_reducible apply de_at 13 nm13); rfl)
  | ((with_reducible apply de_at 14 nm14); rfl)
  | ((with_reducible apply de_at 15 nm15); rfl))
set_option hygiene false in
local macro_rules | `(tactic| walk_at "gf") => `(tactic| first | (with_reducible apply de_gf gf0) | (with_reducible apply de_gf gf1) | (with_reducible apply de_gf gf2) | (with_reducible apply de_gf gf3) | (with_reducible apply de_gf gf4) | (with_reducible apply de_gf gf5))
set_option hygiene false in
local macro_rules | `(tactic| walk_at "ev") => `(tactic| first
  | walk_at "nm" | exact de_int | exact de_bool | exact de_non
  | (apply de_add; walk_at "ev"; walk_at "ev") | (apply de_sub; walk_at "ev"; walk_at "ev")
  | (apply de_mul; walk_at "ev"; walk_at "ev"; walk_at "side")
  | (apply de_mod; walk_at "ev"; walk_at "ev"; walk_at "side")
  | (apply de_fdiv; walk_at "ev"; walk_at "ev"; walk_at "side")
  | (apply de_ixT0; walk_at "ev"; rfl)
  | (apply de_ixL0; walk_at "ev"; rfl)
  | (apply de_cmp cmp_eq; walk_at "ev"; walk_at "ev") | (apply de_cmp cmp_ne; walk_at "ev"; walk_at "ev") | (apply de_cmp cmp_lt; walk_at "ev"; walk_at "ev")
  | (apply de_cmp cmp_le; walk_at "ev"; walk_at "ev") | (apply de_cmp cmp_gt; walk_at "ev"; walk_at "ev")
  | (apply de_chain cmp_le cmp_le (by with_unfolding_all rfl); walk_at "ev"; walk_at "ev"; walk_at "ev")
  | (apply de_one; walk_at "ev")
  | (apply de_and; walk_at "ev"; (intro _); walk_at "ev")
  | (apply de_or; walk_at "ev"; (intro _); walk_at "ev")
  | (apply de_not; walk_at "ev")
  | (apply de_tup; walk_at "evs"; exact len_ok rfl)
  | (apply de_lst; walk_at "evs"; exact len_ok rfl)
  | (apply de_min2 hcalm gmin mmin; walk_at "ev"; walk_at "ev"; rfl; rfl) | (apply de_max2 hcalm gmax mmax; walk_at "ev"; walk_at "ev"; rfl; rfl)
  | (walk_at "gf"; walk_at "evs"; walk_at "call"; rfl; rfl; rfl))
set_option hygiene false in
local macro_rules | `(tactic| walk_at "evs") => `(tactic| first | exact da_nil | (apply da_cons; walk_at "ev"; walk_at "evs"; rfl))
set_option hygiene false in
local macro_rules | `(tactic| walk_at "et") => `(tactic| first
  | (apply dt_cmp cmp_eq; walk_at "ev"; walk_at "ev") | (apply dt_cmp cmp_ne; walk_at "ev"; walk_at "ev") | (apply dt_cmp cmp_lt; walk_at "ev"; walk_at "ev")
  | (apply dt_cmp cmp_le; walk_at "ev"; walk_at "ev") | (apply dt_cmp cmp_gt; walk_at "ev"; walk_at "ev")
  | (apply dt_eqP hu64; walk_at "ev"; walk_at "ev") | (apply dt_in hu1; walk_at "ev"; walk_at "ev"; rfl) | (apply dt_notin hu1; walk_at "ev"; walk_at "ev"; rfl)
  | (apply dt_not; walk_at "et")
  | (apply dt_w; walk_at "ew")
  | (apply dt_val; walk_at "ev"; (intro _); rfl))
set_option hygiene false in
local macro_rules | `(tactic| walk_at "ew") => `(tactic| first
  | (apply dw_and1; walk_at "et") | (apply dw_or1; walk_at "et")
  | (apply dw_and; walk_at "et"; (intro _); walk_at "ew")
  | (apply dw_or; walk_at "et"; (intro _); walk_at "ew"))
local macro_rules | `(tactic| walk_at "call") => `(tactic| (constructor <;> walk_at "side"))
def midT (t : T6) : Option (Int × Int) := if (t.a + t.c) % 2 = 1 ∨ (t.b + t.d) % 2 = 1 then none else some ((t.a + t.c) / 2, (t.b + t.d) / 2)
theorem dMid_eq (t : T6) : dMid t.a t.b t.c t.d = optD (midT t) := by
  unfold dMid midT
  split <;> rfl
def half1 (t : T6) : T6 := ⟨t.a, t.b, t.e, t.f, (t.a + t.c) / 2, (t.b + t.d) / 2⟩
def half2 (t : T6) : T6 := ⟨t.e, t.f, t.c, t.d, (t.a + t.c) / 2, (t.b + t.d) / 2⟩
/-- n halvings reach every leaf -/
def deepT : Nat → T6 → Bool
  | 0, t => (midT t).isNone
  | n + 1, t => (midT t).isNone || (deepT n (half1 t) && deepT n (half2 t))
def spr (ks : List (Int × Int)) : Nat → T6 → List T6
  | 0, t => [t]
  | n + 1, t => if optIn ks (midT t) = true then spr ks n (half1 t) ++ spr ks n (half2 t) else [t]
theorem spr_len (ks : List (Int × Int)) : ∀ (n : Nat) (t : T6), (spr ks n t).length ≤ 2 ^ n
  | 0, t => Nat.le_refl _
  | n + 1, t => by
    unfold spr
    split
    · have h1 := spr_len ks n (half1 t)
      have h2 := spr_len ks n (half2 t)
      rw [List.length_append, Nat.pow_succ]
      omega
    · exact Nat.one_le_two_pow
inductive RSpread (n : Nat) : List Dt → Mu → Dt → Mu → Prop
  | mk {t : T6} {ks : List (Int × Int)} {D : Addr} {acc : List Dt} (h : deepT n t = true) (hl : acc.length + 2 ^ n < 100000) : RSpread n [trD t, .dct ks, .raw (.ref D)] [(D, .lst acc)] .non [(D, .lst (acc ++ (spr ks n t).map trD))]
def leavesF (w d s : Int) (ks : List (Int × Int)) : List T6 := (rootsF w d s).flatMap (spr ks 7)
inductive RLeaves : List Dt → Dt → Prop
  | mk {w d s : Int} {ks : List (Int × Int)} (h : Small w d s) (hd : ∀ t ∈ rootsF w d s, deepT 7 t = true) : RLeaves [pl w d s, .dct ks] (.lst ((leavesF w d s ks).map trD))
theorem roots_len {w d s : Int} (h : Small w d s) : (rootsF w d s).length ≤ 128 := by
  have hw1 := h.w
  have hd1 := h.d
  refine Nat.le_trans (flat_len _ 16 _ fun a _ => Nat.le_trans (flat_len _ 2 _ fun c _ => ?_) ?_) ?_
  · unfold rootsT
    split <;> exact Nat.le_refl _
  · rw [List.length_range]
    omega
  · rw [List.length_range]
    exact Nat.le_trans (Nat.mul_le_mul_right 16 (show w.toNat ≤ 8 by omega)) (by decide)
section
variable {P : Program} {w : World} {K : PySem.W.Frag} {mg : Str → Option Value} {base : Heap}
theorem sc_ok_noted : FnScope ["plan", "cuts", "at"] ["plan", "cuts"] (defScope sNoted) := ⟨rfl, rfl, rfl, by decide +kernel, rfl, by decide +kernel, by decide +kernel⟩
theorem ok_noted {f : Addr} {fd : FuncData} (F : Fun K "noted" "noted" sNoted f fd) (gC : Fn P w K mg base 3 "cut_only" 2 (spD 2 RCutOnly)) (m_sorted : mg "sorted" = Option.none) : FnOk P w K mg base CX0 4 f fd ["plan", "cuts"] (spD 2 RNoted) := by
  refine fn_okS F sc_ok_noted (by decide) fun X b ds r hl hR => ?_
  cases hR with | @mk w d s ps h hlp hp => ?_
  have nm0 := b.nm 0 "plan" rfl (.inl rfl) (by decide) (by decide)
  have nm1 := b.nm 1 "cuts" rfl (.inl rfl) (by decide) (by decide)
  have nm2 := b.nm 2 "at" rfl (.inl rfl) (by decide) (by decide)
  have ls2 := b.ls 2 "at" rfl (.inl rfl)
  have gf0 := b.gf gC (by decide) rfl (by decide)
  have hcalm := b.calm
  have hr0 := b.room.un
  have hu1 : X.A.units + 1 < cLine := by omega
  have hu64 : X.A.units + 64 < cLine := by omega
  have hu65 : X.A.units + 65 < cLine := by omega
  have gsorted : Gl X "sorted" := b.gl rfl
  have msorted : X.mg "sorted" = Option.none := by rw [b.m_]; exact m_sorted
  conv in defBody _ => whnf
  have hw1 := h.w
  have hd1 := h.d
  have hs1 := sd_sm h.s
  have hs0 := h.s0.1
  refine sm_forI (fun E M => M = [] ∧ ∃ o2, E = [some (pl w d s), some (.lst (ptsD ps)), o2]) b.own b.calm ls2 (id_list (ds := ptsD ps) (dm_ ?_)) (fun _ => rfl) ⟨rfl, none, rfl⟩ (fun dd hd E M hI => ?_) (fun E' M' hI => ?_)
  · walk_at "ev"
  · obtain ⟨rfl, o2, rfl⟩ := hI
    obtain ⟨p, hpm, rfl⟩ := List.mem_map.mp hd
    obtain ⟨q1, q2⟩ := hp p hpm
    refine ⟨_, _, ⟨rfl, some (pt p.1 p.2), rfl⟩, sm_cons (sm1_nx (s1_expr (d := .non) ?_ rfl)) sm_nil⟩
    walk_at "ev"
  · obtain ⟨rfl, o2, rfl⟩ := hI
    refine sm_rt (ss_last (s1_ret ?_))
    refine de_dcP (i := 2) b.calm (by omega) (by rw [b.n_]; exact b.nd) (blkOk_by (by rw [b.n_, b.sc]; decide +kernel)) (blk_pg (i := 2) (by rw [b.n_]; exact b.nd) (by rw [b.n_]; rfl) rfl (by rw [b.sc]; exact .inl rfl) (by rw [b.sc]; rfl)) (de_sortL gsorted msorted ?_ rfl) (fun q cx cb => ?_) (fun q cx cb => de_bool) ?_ (fun _ => rfl)
    · walk_at "ev"
    · have nm2 := cb.nm 2 "at" (by rw [b.n_]; rfl) (by rw [b.sc]; exact .inl rfl) (by decide) (by decide)
      apply de_at 2 nm2
      rfl
    · rw [(sortP_perm ps).length_eq]
      exact Nat.lt_of_le_of_lt hlp (by decide)
theorem sc_ok_crack : FnScope ["plan", "cuts", "there", "at", "up"] ["plan", "cuts"] (defScope sCrack) := ⟨rfl, rfl, rfl, by decide +kernel, rfl, by decide +kernel, by decide +kernel⟩
theorem ok_crack {f : Addr} {fd : FuncData} (F : Fun K "crack" "crack" sCrack f fd) (gN : Fn P w K mg base 4 "noted" 2 (spD 2 RNoted)) (gP : Fn P w K mg base 6 "parents" 2 (spD 2 RPars)) : FnOk P w K mg base CX0 7 f fd ["plan", "cuts"] (spD 2 RCrack) := by
  refine fn_okS F sc_ok_crack (by decide) fun X b ds r hl hR => ?_
  cases hR with | @mk w d s ps h hlp hp hc => ?_
  have nm0 := b.nm 0 "plan" rfl (.inl rfl) (by decide) (by decide)
  have nm1 := b.nm 1 "cuts" rfl (.inl rfl) (by decide) (by decide)
  have nm2 := b.nm 2 "there" rfl (.inl rfl) (by decide) (by decide)
  have nm3 := b.nm 3 "at" rfl (.inl rfl) (by decide) (by decide)
  have nm4 := b.nm 4 "up" rfl (.inl rfl) (by decide) (by decide)
  have ls2 := b.ls 2 "there" rfl (.inl rfl)
  have ls3 := b.ls 3 "at" rfl (.inl rfl)
  have ls4 := b.ls 4 "up" rfl (.inl rfl)
  have gf0 := b.gf gN (by decide) rfl (by decide)
  have gf1 := b.gf gP (by decide) rfl (by decide)
  have hcalm := b.calm
  have hr0 := b.room.un
  have hu1 : X.A.units + 1 < cLine := by omega
  have hu64 : X.A.units + 64 < cLine := by omega
  have hu65 : X.A.units + 65 < cLine := by omega
  conv in defBody _ => whnf
  have hw1 := h.w
  have hd1 := h.d
  have hs1 := sd_sm h.s
  have hs2 := h.s
  have hs0 := h.s0.1
  have hs_w : Sm w := by omega
  have hs_d : Sm d := by omega
  refine sm_cons (sm1_nx (s1_st (d := .dct ((sortP ps).foldl putP [])) 2 ls2 ?_ rfl)) ?_
  · apply de_gf gf0
    · walk_at "evs"
    · exact .mk h hlp hp
    all_goals rfl
  have mem : ∀ q, q ∈ (sortP ps).foldl putP [] ↔ q ∈ ps := fun q => by rw [mem_foldP, (sortP_perm ps).mem_iff]; simp
  generalize (sortP ps).foldl putP [] = ks at mem
  refine sm_forK (fun E M => M = [] ∧ ∃ o3 o4, E = [some (pl w d s), some (.lst (ptsD ps)), some (.dct ks), o3, o4]) b.own b.calm ls3 nm2 rfl (fun _ => rfl) ⟨rfl, none, none, rfl⟩ (fun dd hd E M hI => ?_) (fun E' M' hI => ?_)
  · obtain ⟨rfl, o3, o4, rfl⟩ := hI
    obtain ⟨p, hpm, rfl⟩ := List.mem_map.mp hd
    have hpm' := (mem p).mp hpm
    obtain ⟨q1, q2⟩ := hp p hpm'
    refine ex_forI (fun E M => M = [] ∧ ∃ o4, E = [some (pl w d s), some (.lst (ptsD ps)), some (.dct ks), some (pt p.1 p.2), o4]) b.own b.calm ls4 (id_list (ds := ptsD (parsE w d s p.1 p.2)) (dm_ ?_)) (fun _ => rfl) ⟨rfl, o4, rfl⟩ (fun dd hd E M hI => ?_) (fun E' M' hI => ?_)
    · apply de_gf gf1
      · walk_at "evs"
      · exact .mk hs_w hs_d hs2 q1 q2
      all_goals rfl
    · obtain ⟨rfl, o4, rfl⟩ := hI
      obtain ⟨q, hq, rfl⟩ := List.mem_map.mp hd
      have hqm := (mem q).mpr (hc p hpm' q hq)
      refine ⟨_, _, ⟨rfl, some (pt q.1 q.2), rfl⟩, sm_cons (sm1_ifF (tm_ ?_) sm_nil) sm_nil⟩
      apply DT.is (b := !decide ((q.1, q.2) ∈ ks))
      · walk_at "et"
      · rw [decide_eq_true (show (q.1, q.2) ∈ ks from hqm)]
        rfl
    · obtain ⟨rfl, o4, rfl⟩ := hI
      exact ⟨_, _, ⟨rfl, _, _, rfl⟩, sm_nil⟩
  · obtain ⟨rfl, o3, o4, rfl⟩ := hI
    exact sm_rt (ss_last (s1_ret de_non))
theorem sc_spread : FnScope ["shape", "there", "found", "half"] ["shape", "there", "found"] (defScope sSpread) := ⟨rfl, rfl, rfl, by decide +kernel, rfl, by decide +kernel, by decide +kernel⟩
theorem ok_spread {f : Addr} {fd : FuncData} (F : Fun K "spread" "spread" sSpread f fd) (gM : Fn P w K mg base 1 "middle" 1 (spD 1 RMid)) (gH : Fn P w K mg base 2 "halved" 1 (spD 1 RHalved)) (hm : mg "spread" = some (.ref f)) (bd : Binds K fd ["shape", "there", "found"] []) :
    ∀ n : Nat, FnOk P w K mg base CX0 (n + 3) f fd ["shape", "there", "found"] (spM 3 (RSpread n)) := by
  intro n
  induction n with
  | zero =>
    refine fn_okMN F sc_spread (by decide) fun X b ds M r M' hl hR => ?_
    cases hR with | @mk t ks D acc h hl2 => ?_
    have nm0 := b.nm 0 "shape" rfl (.inl rfl) (by decide) (by decide)
    have nm1 := b.nm 1 "there" rfl (.inl rfl) (by decide) (by decide)
    have nm2 := b.nm 2 "found" rfl (.inl rfl) (by decide) (by decide)
    have nm3 := b.nm 3 "half" rfl (.inl rfl) (by decide) (by decide)
    have ls3 := b.ls 3 "half" rfl (.inl rfl)
    have gf0 := b.gf gM (by decide) rfl (by decide)
    have hcalm := b.calm
    have hr0 := b.room.un
    have hu1 : X.A.units + 1 < cLine := by omega
    have hu64 : X.A.units + 64 < cLine := by omega
    have hu65 : X.A.units + 65 < cLine := by omega
    have hz0 : 0 < 1 := by decide
    refine ⟨rfl, [some (trD t), some (.dct ks), some (.raw (.ref D)), none], ?_⟩
    conv in defBody _ => whnf
    have hq : midT t = none := by
      unfold deepT at h
      exact Option.isNone_iff_eq_none.mp h
    have hz : acc.length < sizeLine := Nat.lt_of_lt_of_le (show acc.length < 100000 by omega) (by decide)
    refine sm_cons (sm1_ifF (tm_ (DT.is (dt_inN (q := midT t) (ks := ks) hu1 ?_ ?_ rfl) ?_)) (sm_cons (sm1_expr (dm_append (m := 0) (D := D) (ds := acc) (d := trD t) ?_ rfl (dm_ ?_) rfl hz ⟨rfl, rfl, rfl, rfl⟩) rfl) sm_nil)) sm_nil
    · rw [← dMid_eq]
      walk_at "ev"
    · walk_at "ev"
    · rw [hq]
      rfl
    · walk_at "ev"
    · walk_at "ev"
  | succ n ih =>
    have gS : Fn P w K mg base (n + 3) "spread" 3 (spM 3 (RSpread n)) := ⟨f, fd, _, ih, hm, F.kp, bd, rfl⟩
    refine fn_okMN F sc_spread (by decide) fun X b ds M r M' hl hR => ?_
    cases hR with | @mk t ks D acc h hl2 => ?_
    have nm0 := b.nm 0 "shape" rfl (.inl rfl) (by decide) (by decide)
    have nm1 := b.nm 1 "there" rfl (.inl rfl) (by decide) (by decide)
    have nm2 := b.nm 2 "found" rfl (.inl rfl) (by decide) (by decide)
    have nm3 := b.nm 3 "half" rfl (.inl rfl) (by decide) (by decide)
    have ls3 := b.ls 3 "half" rfl (.inl rfl)
    have gf0 := b.gf gM (by omega) rfl (by decide)
    have gf1 := b.gf gH (by omega) rfl (by decide)
    have gm0 := b.gm gS (Nat.le_refl _) rfl (by decide)
    have hcalm := b.calm
    have hr0 := b.room.un
    have hu1 : X.A.units + 1 < cLine := by omega
    have hu64 : X.A.units + 64 < cLine := by omega
    have hu65 : X.A.units + 65 < cLine := by omega
    have hp2 : 0 < 2 ^ n := Nat.two_pow_pos n
    rw [Nat.pow_succ] at hl2
    have hz : acc.length < sizeLine := Nat.lt_of_lt_of_le (show acc.length < 100000 by omega) (by decide)
    refine ⟨rfl, ?_⟩
    conv in defBody _ => whnf
    cases hq : optIn ks (midT t) with
    | false =>
      unfold spr
      rw [hq, if_neg Bool.false_ne_true]
      refine ⟨_, sm_cons (sm1_ifF (tm_ (DT.is (dt_inN (q := midT t) (ks := ks) hu1 ?_ ?_ rfl) hq)) (sm_cons (sm1_expr (dm_append (m := 0) (D := D) (ds := acc) (d := trD t) ?_ rfl (dm_ ?_) rfl hz ⟨rfl, rfl, rfl, rfl⟩) rfl) sm_nil)) sm_nil⟩
      · rw [← dMid_eq]
        walk_at "ev"
      · walk_at "ev"
      · walk_at "ev"
      · walk_at "ev"
    | true =>
      unfold spr
      rw [hq, if_pos rfl]
      have hne : ¬ ((t.a + t.c) % 2 = 1 ∨ (t.b + t.d) % 2 = 1) := fun z => by
        unfold midT at hq
        rw [if_pos z] at hq
        exact Bool.noConfusion (show false = true from hq)
      have hdp : deepT n (half1 t) = true ∧ deepT n (half2 t) = true := by
        unfold deepT at h
        unfold midT at h
        rw [if_neg hne] at h
        simpa using h
      have l1 := spr_len ks n (half1 t)
      refine ⟨_, sm_cons (sm1_ifT (tm_ (DT.is (dt_inN (q := midT t) (ks := ks) hu1 ?_ ?_ rfl) hq)) (sm_cons (sm1_for b.own b.calm ls3 (id_list (ds := [trD (half1 t), trD (half2 t)]) (dm_ ?_)) (.next (E' := [some (trD t), some (.dct ks), some (.raw (.ref D)), some (trD (half1 t))]) (M' := [(D, .lst (acc ++ (spr ks n (half1 t)).map trD))]) (sm_cons (sm1_expr (dm_call (Mr := []) gm0 (am_ ?_) (.mk hdp.1 (by omega)) rfl rfl rfl rfl) rfl) sm_nil) (.next (E' := [some (trD t), some (.dct ks), some (.raw (.ref D)), some (trD (half2 t))]) (M' := [(D, .lst (acc ++ (spr ks n (half1 t) ++ spr ks n (half2 t)).map trD))]) ?_ .nil)) (fun _ => rfl)) sm_nil)) sm_nil⟩
      · rw [← dMid_eq]
        walk_at "ev"
      · walk_at "ev"
      · apply de_gf gf1
        · walk_at "evs"
        · exact .mk hne
        all_goals rfl
      · walk_at "evs"
      · refine sm_cons (sm1_expr (d := .non) (M1 := [(D, .lst (acc ++ (spr ks n (half1 t) ++ spr ks n (half2 t)).map trD))]) ?_ rfl) sm_nil
        rw [List.map_append, ← List.append_assoc]
        refine dm_call (Mr := []) gm0 (am_ ?_) (.mk hdp.2 (by rw [List.length_append, List.length_map]; omega)) rfl rfl rfl rfl
        walk_at "evs"
theorem sc_ok_leaves : FnScope ["plan", "there", "found", "root"] ["plan", "there"] (defScope sLeaves) := ⟨rfl, rfl, rfl, by decide +kernel, rfl, by decide +kernel, by decide +kernel⟩
theorem ok_leaves {f : Addr} {fd : FuncData} (F : Fun K "leaves" "leaves" sLeaves f fd) (gR : Fn P w K mg base 2 "roots" 1 (spD 1 RRoots)) (gS : Fn P w K mg base 10 "spread" 3 (spM 3 (RSpread 7))) : FnOk P w K mg base CX0 11 f fd ["plan", "there"] (spD 2 RLeaves) := by
  refine fn_okS F sc_ok_leaves (by decide) fun X b ds r hl hR => ?_
  cases hR with | @mk w d s ks h hd => ?_
  have nm0 := b.nm 0 "plan" rfl (.inl rfl) (by decide) (by decide)
  have nm1 := b.nm 1 "there" rfl (.inl rfl) (by decide) (by decide)
  have nm2 := b.nm 2 "found" rfl (.inl rfl) (by decide) (by decide)
  have nm3 := b.nm 3 "root" rfl (.inl rfl) (by decide) (by decide)
  have ls2 := b.ls 2 "found" rfl (.inl rfl)
  have ls3 := b.ls 3 "root" rfl (.inl rfl)
  have gf0 := b.gf gR (by decide) rfl (by decide)
  have gm0 := b.gm gS (by decide) rfl (by decide)
  have hcalm := b.calm
  have hr0 := b.room.un
  have hu1 : X.A.units + 1 < cLine := by omega
  have hu64 : X.A.units + 64 < cLine := by omega
  have hu65 : X.A.units + 65 < cLine := by omega
  conv in defBody _ => whnf
  have hrl := roots_len h
  refine sm_new 2 ls2 (nw_lst da_nil (Nat.zero_le _)) rfl fun D => ?_
  have key : ∀ ts : List T6, (∀ t ∈ ts, t ∈ rootsF w d s) → (ts.map trD).flatMap (fun dt => match dt with | .tup [.int a, .int b, .int c, .int d, .int e, .int f] => (spr ks 7 ⟨a, b, c, d, e, f⟩).map trD | _ => []) = (ts.flatMap (spr ks 7)).map trD := fun ts _ => by
    rw [flat_map, map_flat]
  refine sm_forA (acc := []) (fun E => ∃ o3, E = [some (pl w d s), some (.dct ks), some (.raw (.ref D)), o3]) (fun l => [(D, .lst l)]) (fun dt => match dt with | .tup [.int a, .int b, .int c, .int d, .int e, .int f] => (spr ks 7 ⟨a, b, c, d, e, f⟩).map trD | _ => []) 20000 b.own b.calm ls3 (id_list (ds := (rootsF w d s).map trD) (dm_ ?_)) (fun _ => rfl) ⟨none, rfl⟩ ?_ (fun dd hd2 acc E hI hB => ?_) (fun E' hI => ?_)
  · walk_at "ev"
  · rw [List.nil_append, key _ fun t ht => ht, List.length_map]
    refine Nat.le_trans (flat_len _ 128 _ fun t _ => spr_len ks 7 t) ?_
    exact Nat.le_trans (Nat.mul_le_mul_right 128 hrl) (by decide)
  · obtain ⟨o3, rfl⟩ := hI
    obtain ⟨t, ht, rfl⟩ := List.mem_map.mp hd2
    refine ⟨_, ⟨some (trD t), rfl⟩, sm_cons (sm1_expr (dm_call (Mr := []) gm0 (am_ ?_) (.mk (hd t ht) ?_) rfl rfl rfl rfl) rfl) sm_nil⟩
    · walk_at "evs"
    · rw [List.length_append] at hB
      have e7 : (2 : Nat) ^ 7 = 128 := by decide
      omega
  · obtain ⟨o3, rfl⟩ := hI
    rw [List.nil_append, key _ fun t ht => ht]
    refine sm_freeze (M := []) (D := D) (cc := .lst ((leavesF w d s ks).map trD)) 2 rfl (sm_rt (ss_last (s1_ret ?_)))
    walk_at "ev"
end
end Br

-- BrH
namespace Br
open PySem L2 PySem.Spec PyProof.Rows
local macro_rules | `(tactic| walk_at "side") => `(tactic| first | assumption | omega | decide | (left; constructor <;> omega) | (right; constructor <;> omega) | (constructor <;> omega))
set_option hygiene false in
local macro_rules | `(tactic| walk_at "nm") => `(tactic| first
  | ((with_reducible apply de_at 0 nm0); rfl)
  | ((with_reducible apply de_at 1 nm1); rfl)
  | ((with_reducible apply de_at 2 nm2); rfl)
  | ((with_reducible apply de_at 3 nm3); rfl)
  | ((with_reducible apply de_at 4 nm4); rfl)
  | ((with_reducible apply de_at 5 nm5); rfl)
  | ((with_reducible apply de_at 6 nm6); rfl)
  | ((with_reducible apply de_at 7 nm7); rfl)
  | ((with_reducible apply de_at 8 nm8); rfl)
  | ((with_reducible apply de_at 9 nm9); rfl)
  | ((with_reducible apply de_at 10 nm10); rfl)
  | ((with_reducible apply de_at 11 nm11); rfl)
  | ((with_reducible apply de_at 12 nm12); rfl)
  | ((with_reducible apply de_at 13 nm13); rfl)
  | ((with_reducible apply de_at 14 nm14); rfl)
  | ((with_reducible apply de_at 15 nm15); rfl))
set_option hygiene false in
local macro_rules | `(tactic| walk_at "gf") => `(tactic| first | (with_reducible apply de_gf gf0) | (with_reducible apply de_gf gf1) | (with_reducible apply de_gf gf2) | (with_reducible apply de_gf gf3) | (with_reducible apply de_gf gf4) | (with_reducible apply de_gf gf5))
set_option hygiene false in
local macro_rules | `(tactic| walk_at "ev") => `(tactic| first
  | walk_at "nm" | exact de_int | exact de_bool | exact de_non
  | (apply de_add; walk_at "ev"; walk_at "ev") | (apply de_sub; walk_at "ev"; walk_at "ev")
  | (apply de_mul; walk_at "ev"; walk_at "ev"; walk_at "side")
  | (apply de_mod; walk_at "ev"; walk_at "ev"; walk_at "side")
  | (apply de_fdiv; walk_at "ev"; walk_at "ev"; walk_at "side")
  | (apply de_ixT0; walk_at "ev"; rfl)
  | (apply de_ixL0; walk_at "ev"; rfl)
  | (apply de_cmp cmp_eq; walk_at "ev"; walk_at "ev") | (apply de_cmp cmp_ne; walk_at "ev"; walk_at "ev") | (apply de_cmp cmp_lt; walk_at "ev"; walk_at "ev")
  | (apply de_cmp cmp_le; walk_at "ev"; walk_at "ev") | (apply de_cmp cmp_gt; walk_at "ev"; walk_at "ev")
  | (apply de_chain cmp_le cmp_le (by with_unfolding_all rfl); walk_at "ev"; walk_at "ev"; walk_at "ev")
  | (apply de_one; walk_at "ev")
  | (apply de_and; walk_at "ev"; (intro _); walk_at "ev")
  | (apply de_or; walk_at "ev"; (intro _); walk_at "ev")
  | (apply de_not; walk_at "ev")
  | (apply de_tup; walk_at "evs"; exact len_ok rfl)
  | (apply de_lst; walk_at "evs"; exact len_ok rfl)
  | (apply de_min2 hcalm gmin mmin; walk_at "ev"; walk_at "ev"; rfl; rfl) | (apply de_max2 hcalm gmax mmax; walk_at "ev"; walk_at "ev"; rfl; rfl)
  | (walk_at "gf"; walk_at "evs"; walk_at "call"; rfl; rfl; rfl))
set_option hygiene false in
local macro_rules | `(tactic| walk_at "evs") => `(tactic| first | exact da_nil | (apply da_cons; walk_at "ev"; walk_at "evs"; rfl))
set_option hygiene false in
local macro_rules | `(tactic| walk_at "et") => `(tactic| first
  | (apply dt_cmp cmp_eq; walk_at "ev"; walk_at "ev") | (apply dt_cmp cmp_ne; walk_at "ev"; walk_at "ev") | (apply dt_cmp cmp_lt; walk_at "ev"; walk_at "ev")
  | (apply dt_cmp cmp_le; walk_at "ev"; walk_at "ev") | (apply dt_cmp cmp_gt; walk_at "ev"; walk_at "ev")
  | (apply dt_eqP hu64; walk_at "ev"; walk_at "ev") | (apply dt_in hu1; walk_at "ev"; walk_at "ev"; rfl) | (apply dt_notin hu1; walk_at "ev"; walk_at "ev"; rfl)
  | (apply dt_not; walk_at "et")
  | (apply dt_w; walk_at "ew")
  | (apply dt_val; walk_at "ev"; (intro _); rfl))
set_option hygiene false in
local macro_rules | `(tactic| walk_at "ew") => `(tactic| first
  | (apply dw_and1; walk_at "et") | (apply dw_or1; walk_at "et")
  | (apply dw_and; walk_at "et"; (intro _); walk_at "ew")
  | (apply dw_or; walk_at "et"; (intro _); walk_at "ew"))
local macro_rules | `(tactic| walk_at "call") => `(tactic| (constructor <;> walk_at "side"))
section
variable {P : Program} {w : World} {K : PySem.W.Frag} {mg : Str → Option Value} {base : Heap}
theorem fn_okMV {x qual : Str} {st : Stmt} {N : List Str} {k : Nat} {f : Addr} {fd : FuncData} {ps : List Str} {R : List Dt → Mu → Dt → Mu → Prop} {dvs : List V} {kws : List (Str × V)} (F : FunD K x qual (defArgs st) (defBody st) (defScope st) dvs kws f fd) (S : FnScope N ps (defScope st)) (hle : ps.length ≤ N.length)
    (h : ∀ (X : Cx), Bx P w K mg base N st k X → ∀ ds M d M', ds.length = ps.length → R ds M d M' → d = .non ∧ ∃ Eo, SM X (startE N.length ds) M (defBody st) (.nx Eo M')) : FnOk P w K mg base CX0 (k + 1) f fd ps (spM ps.length R) := by
  refine F.ok S (fun vs H Q E h => ?_) (fun cdv A outer s H vs Q E hr hsp => ?_)
  · obtain ⟨_, ds, _, _, _, _, r, _, hl, _⟩ := h
    rw [r.length, hl]
  · obtain ⟨Hf, ds, M, d, M', hs, r, m, hl, hR, hk, q⟩ := hsp
    obtain ⟨rfl, Eo, hS⟩ := h _ ⟨⟨qual, f, cdv, A, outer, s, H, E, rfl⟩, S.nd, hr⟩ ds M d M' hl hR
    exact ⟨uS (bx P w K mg base N qual st f cdv A outer s H E) (defBody st), pss_u.nox, hS.r Hf _ H _ hs (reps_env r N (by omega)) m fun σ' Hf' H' f' _ m' => q .non Hf' H' f' m' .non⟩
def keysF (ps : List (Int × Int)) : List (Int × Int) := (sortP ps).foldl putP []
abbrev meshNs : List Str := ["plan", "there", "parts"]
def meshD (C : Addr) (w d s : Int) (ps : List (Int × Int)) : Dt := .ob C meshNs [pl w d s, .dct (keysF ps), .lst ((leavesF w d s (keysF ps)).map trD)]
inductive RInit (C : Addr) : List Dt → Mu → Dt → Mu → Prop
  | mk {D : Addr} {w d s : Int} {ps : List (Int × Int)} (h : Small w d s) (hl : ps.length ≤ 5000) (hp : ∀ p ∈ ps, inB w d s p.1 p.2 = true ∧ onC s p.1 p.2 = false) (hc : ∀ p ∈ ps, ∀ q ∈ parsE w d s p.1 p.2, q ∈ ps) (hd : ∀ t ∈ rootsF w d s, deepT 7 t = true) :
    RInit C [.raw (.ref D), pl w d s, .lst (ptsD ps)] [(D, .ob C [] [])] .non [(D, meshD C w d s ps)]
inductive RTri (C : Addr) : List Dt → Dt → Prop
  | mk {w d s : Int} {ps : List (Int × Int)} : RTri C [meshD C w d s ps] (.lst ((leavesF w d s (keysF ps)).map trD))
structure ClF (K : PySem.W.Frag) (C : Addr) : Prop where
  c : Cls K C
  n0 : NoAttr K C "plan"
  n1 : NoAttr K C "there"
  n2 : NoAttr K C "parts"
theorem sc_init : FnScope ["self", "plan", "cuts", "torn"] ["self", "plan", "cuts"] (defScope sInit) := ⟨rfl, rfl, rfl, by decide +kernel, rfl, by decide +kernel, by decide +kernel⟩
theorem ok_init {f C : Addr} {fd : FuncData} {dvs : List V} {kws : List (Str × V)} (F : FunD K "__init__" "Mesh.__init__" (defArgs sInit) (defBody sInit) (defScope sInit) dvs kws f fd) (cl : ClF K C) (gK : Fn P w K mg base 7 "crack" 2 (spD 2 RCrack)) (gN : Fn P w K mg base 4 "noted" 2 (spD 2 RNoted)) (gL : Fn P w K mg base 11 "leaves" 2 (spD 2 RLeaves)) : FnOk P w K mg base CX0 12 f fd ["self", "plan", "cuts"] (spM 3 (RInit C)) := by
  refine fn_okMV F sc_init (by decide) fun X b ds M r M' hl hR => ?_
  cases hR with | @mk D w d s ps h hlp hp hc hd => ?_
  have nm0 := b.nm 0 "self" rfl (.inl rfl) (by decide) (by decide)
  have nm1 := b.nm 1 "plan" rfl (.inl rfl) (by decide) (by decide)
  have nm2 := b.nm 2 "cuts" rfl (.inl rfl) (by decide) (by decide)
  have nm3 := b.nm 3 "torn" rfl (.inl rfl) (by decide) (by decide)
  have ls3 := b.ls 3 "torn" rfl (.inl rfl)
  have gf0 := b.gf gK (by decide) rfl (by decide)
  have gf1 := b.gf gN (by decide) rfl (by decide)
  have gf2 := b.gf gL (by decide) rfl (by decide)
  have hcalm := b.calm
  have hr0 := b.room.un
  have hu1 : X.A.units + 1 < cLine := by omega
  have hu64 : X.A.units + 64 < cLine := by omega
  have hu65 : X.A.units + 65 < cLine := by omega
  refine ⟨rfl, [some (.raw (.ref D)), some (pl w d s), some (.lst (ptsD ps)), some .non], ?_⟩
  have cX : Cls X.K C := by rw [b.k_]; exact cl.c
  have n0 : NoAttr X.K C "plan" := by rw [b.k_]; exact cl.n0
  have n1 : NoAttr X.K C "there" := by rw [b.k_]; exact cl.n1
  have n2 : NoAttr X.K C "parts" := by rw [b.k_]; exact cl.n2
  conv in defBody _ => whnf
  refine sm_cons (sm1_nx (s1_st (d := .non) 3 ls3 ?_ rfl)) ?_
  · apply de_gf gf0
    · walk_at "evs"
    · exact .mk h hlp hp hc
    all_goals rfl
  refine sm_cons (sm1_ifF (tm_ (dt_notN ?_)) sm_nil) ?_
  · walk_at "ev"
  refine sm_cons (sm1_fld (m := 0) (D := D) (C := C) (d := pl w d s) (dm_ ?_) ?_ rfl cX n0 (by decide) (by decide) rfl) ?_
  · walk_at "ev"
  · walk_at "ev"
  refine sm_cons (sm1_fld (m := 0) (D := D) (C := C) (d := .dct (keysF ps)) (dm_ ?_) ?_ rfl cX n1 (by decide) (by decide) rfl) ?_
  · apply de_gf gf1
    · walk_at "evs"
    · exact .mk h hlp hp
    all_goals rfl
  · walk_at "ev"
  refine sm_cons (sm1_fld (m := 0) (D := D) (C := C) (d := .lst ((leavesF w d s (keysF ps)).map trD)) (M1 := [(D, .ob C ["plan", "there"] [pl w d s, .dct (keysF ps)])]) ?_ ?_ rfl cX n2 (by decide) (by decide) rfl) sm_nil
  · obtain ⟨k0, F0, hr0'⟩ := gf2.ok
    refine dm_callD gf2 (am_cons (dm_ (d := pl w d s) ?_) (am_cons (dm_fld (m := 0) (n := 1) (D := D) (C := C) (ns := ["plan", "there"]) (ds := [pl w d s, .dct (keysF ps)]) ?_ rfl cX n1 (by decide) rfl rfl rfl) am_nil rfl) rfl) (.mk h hd) rfl rfl rfl
    · walk_at "ev"
    · walk_at "ev"
  · walk_at "ev"
theorem sc_tri : FnScope ["self"] ["self"] (defScope sTri) := ⟨rfl, rfl, rfl, by decide +kernel, rfl, by decide +kernel, by decide +kernel⟩
theorem ok_tri {f C : Addr} {fd : FuncData} (F : Fun K "triangles" "Mesh.triangles" sTri f fd) (cl : ClF K C) (m_list : mg "list" = Option.none) : FnOk P w K mg base CX0 1 f fd ["self"] (spD 1 (RTri C)) := by
  refine fn_ok' F sc_tri (by decide) fun X b ds r hl hR => ?_
  cases hR with | @mk w d s ps => ?_
  have nm0 := b.nm 0 "self" rfl (.inl rfl) (by decide) (by decide)
  have glist : Gl X "list" := b.gl rfl
  have mlist : X.mg "list" = Option.none := by rw [b.m_]; exact m_list
  conv in defBody _ => whnf
  have cX : Cls X.K C := by rw [b.k_]; exact cl.c
  have n2 : NoAttr X.K C "parts" := by rw [b.k_]; exact cl.n2
  refine ss_last (s1_ret (de_list glist mlist (de_fld (n := 2) (ns := meshNs) (C := C) (ds := [pl w d s, .dct (keysF ps), .lst ((leavesF w d s (keysF ps)).map trD)]) ?_ cX n2 (by decide) rfl rfl rfl) rfl))
  apply de_at 0 nm0
  rfl
end
end Br

-- BrI
namespace Br
open PySem L2 PySem.Spec PyProof.Rows
local macro_rules | `(tactic| walk_at "side") => `(tactic| first | assumption | omega | decide | (left; constructor <;> omega) | (right; constructor <;> omega) | (constructor <;> omega))
set_option hygiene false in
local macro_rules | `(tactic| walk_at "nm") => `(tactic| first
  | ((with_reducible apply de_at 0 nm0); rfl)
  | ((with_reducible apply de_at 1 nm1); rfl)
  | ((with_reducible apply de_at 2 nm2); rfl)
  | ((with_reducible apply de_at 3 nm3); rfl)
  | ((with_reducible apply de_at 4 nm4); rfl)
  | ((with_reducible apply de_at 5 nm5); rfl)
  | ((with_reducible apply de_at 6 nm6); rfl)
  | ((with_reducible apply de_at 7 nm7); rfl)
  | ((with_reducible apply de_at 8 nm8); rfl)
  | ((with_reducible apply de_at 9 nm9); rfl)
  | ((with_reducible apply de_at 10 nm10); rfl)
  | ((with_reducible apply de_at 11 nm11); rfl)
  | ((with_reducible apply de_at 12 nm12); rfl)
  | ((with_reducible apply de_at 13 nm13); rfl)
  | ((with_reducible apply de_at 14 nm14); rfl)
  | ((with_reducible apply de_at 15 nm15); rfl))
set_option hygiene false in
local macro_rules | `(tactic| walk_at "gf") => `(tactic| first | (with_reducible apply de_gf gf0) | (with_reducible apply de_gf gf1) | (with_reducible apply de_gf gf2) | (with_reducible apply de_gf gf3) | (with_reducible apply de_gf gf4) | (with_reducible apply de_gf gf5))
set_option hygiene false in
local macro_rules | `(tactic| walk_at "ev") => `(tactic| first
  | walk_at "nm" | exact de_int | exact de_bool | exact de_non
  | (apply de_add; walk_at "ev"; walk_at "ev") | (apply de_sub; walk_at "ev"; walk_at "ev")
  | (apply de_mul; walk_at "ev"; walk_at "ev"; walk_at "side")
  | (apply de_mod; walk_at "ev"; walk_at "ev"; walk_at "side")
  | (apply de_fdiv; walk_at "ev"; walk_at "ev"; walk_at "side")
  | (apply de_ixT0; walk_at "ev"; rfl)
  | (apply de_ixL0; walk_at "ev"; rfl)
  | (apply de_cmp cmp_eq; walk_at "ev"; walk_at "ev") | (apply de_cmp cmp_ne; walk_at "ev"; walk_at "ev") | (apply de_cmp cmp_lt; walk_at "ev"; walk_at "ev")
  | (apply de_cmp cmp_le; walk_at "ev"; walk_at "ev") | (apply de_cmp cmp_gt; walk_at "ev"; walk_at "ev")
  | (apply de_chain cmp_le cmp_le (by with_unfolding_all rfl); walk_at "ev"; walk_at "ev"; walk_at "ev")
  | (apply de_one; walk_at "ev")
  | (apply de_and; walk_at "ev"; (intro _); walk_at "ev")
  | (apply de_or; walk_at "ev"; (intro _); walk_at "ev")
  | (apply de_not; walk_at "ev")
  | (apply de_tup; walk_at "evs"; exact len_ok rfl)
  | (apply de_lst; walk_at "evs"; exact len_ok rfl)
  | (apply de_min2 hcalm gmin mmin; walk_at "ev"; walk_at "ev"; rfl; rfl) | (apply de_max2 hcalm gmax mmax; walk_at "ev"; walk_at "ev"; rfl; rfl)
  | (walk_at "gf"; walk_at "evs"; walk_at "call"; rfl; rfl; rfl))
set_option hygiene false in
local macro_rules | `(tactic| walk_at "evs") => `(tactic| first | exact da_nil | (apply da_cons; walk_at "ev"; walk_at "evs"; rfl))
set_option hygiene false in
local macro_rules | `(tactic| walk_at "et") => `(tactic| first
  | (apply dt_cmp cmp_eq; walk_at "ev"; walk_at "ev") | (apply dt_cmp cmp_ne; walk_at "ev"; walk_at "ev") | (apply dt_cmp cmp_lt; walk_at "ev"; walk_at "ev")
  | (apply dt_cmp cmp_le; walk_at "ev"; walk_at "ev") | (apply dt_cmp cmp_gt; walk_at "ev"; walk_at "ev")
  | (apply dt_eqP hu64; walk_at "ev"; walk_at "ev") | (apply dt_in hu1; walk_at "ev"; walk_at "ev"; rfl) | (apply dt_notin hu1; walk_at "ev"; walk_at "ev"; rfl)
  | (apply dt_not; walk_at "et")
  | (apply dt_w; walk_at "ew")
  | (apply dt_val; walk_at "ev"; (intro _); rfl))
set_option hygiene false in
local macro_rules | `(tactic| walk_at "ew") => `(tactic| first
  | (apply dw_and1; walk_at "et") | (apply dw_or1; walk_at "et")
  | (apply dw_and; walk_at "et"; (intro _); walk_at "ew")
  | (apply dw_or; walk_at "et"; (intro _); walk_at "ew"))
local macro_rules | `(tactic| walk_at "call") => `(tactic| (constructor <;> walk_at "side"))
structure BagS where
  cells : List Int
  at_ : Nat
  st : Int
abbrev bagM (B C : Addr) (bs : BagS) : Mu := [(B, .lst [.raw (.ref C), .int (bs.at_ : Int), .int bs.st]), (C, .lst (bs.cells.map Dt.int))]
def cell0 (bs : BagS) : Int := (bs.cells[bs.at_ % bs.cells.length]?).getD 0
def cell1 (bs : BagS) : Int := if cell0 bs < 0 then 1 - cell0 bs else cell0 bs
def st1 (bs : BagS) : Int := (bs.st * 48271 + cell1 bs * 9973 + (bs.at_ : Int) * 31 + 11) % 2147483647
def drawR (bs : BagS) (many : Int) : Int := if 10 ^ 18 ≤ cell1 bs then cell1 bs % many else st1 bs * 69621 % 2147483629 / 64 % many
def drawS (bs : BagS) (many : Int) : BagS := if 10 ^ 18 ≤ cell1 bs then ⟨bs.cells.set (bs.at_ % bs.cells.length) (cell1 bs / many), bs.at_, bs.st⟩ else ⟨bs.cells, bs.at_ + 1, st1 bs⟩
theorem draw_lt (bs : BagS) {many : Int} (h : 0 < many) : 0 ≤ drawR bs many ∧ drawR bs many < many := by
  unfold drawR
  split
  · exact ⟨Int.emod_nonneg _ (by omega), Int.emod_lt_of_pos _ h⟩
  · exact ⟨Int.emod_nonneg _ (by omega), Int.emod_lt_of_pos _ h⟩
inductive RDraw : List Dt → Mu → Dt → Mu → Prop
  | mk {B C : Addr} {bs : BagS} {many : Int} (h : 0 < many ∧ many < 1073741824) : RDraw [.raw (.ref B), .int many] (bagM B C bs) (.int (drawR bs many)) (bagM B C (drawS bs many))
theorem de_pow18 {X : Cx} {E : En} {a b : Expr} {pos : Pos} (ha : DE X E a (.int 10)) (hb : DE X E b (.int 18)) : DE X E (.BinOp a .Pow b pos) (.int (10 ^ 18)) := let ⟨_, h1, e1⟩ := ha; let ⟨_, h2, e2⟩ := hb; ⟨_, pe_op op_pow h1 h2, ev_I (k := fun i j => .int (i ^ j.toNat)) ⟨by decide, by decide, by decide⟩ (fun _ => .int _) e1 e2⟩
section
variable {P : Program} {w : World} {K : PySem.W.Frag} {mg : Str → Option Value} {base : Heap}
theorem sc_draw : FnScope ["_law_bag_here", "_law_many", "_law_cells", "_law_at", "_law_cell"] ["_law_bag_here", "_law_many"] (defScope sDraw) := ⟨rfl, rfl, rfl, by decide +kernel, rfl, by decide +kernel, by decide +kernel⟩
theorem ok_draw {f : Addr} {fd : FuncData} (F : Fun K "_law_draw" "_law_draw" sDraw f fd) (m_len : mg "len" = Option.none) : FnOk P w K mg base CX0 1 f fd ["_law_bag_here", "_law_many"] (spM 2 RDraw) := by
  refine fn_okM F sc_draw (by decide) fun X b ds M r M' hl hR => ?_
  cases hR with | @mk B C bs many h => ?_
  have nm0 := b.nm 0 "_law_bag_here" rfl (.inl rfl) (by decide) (by decide)
  have nm1 := b.nm 1 "_law_many" rfl (.inl rfl) (by decide) (by decide)
  have nm2 := b.nm 2 "_law_cells" rfl (.inl rfl) (by decide) (by decide)
  have nm3 := b.nm 3 "_law_at" rfl (.inl rfl) (by decide) (by decide)
  have nm4 := b.nm 4 "_law_cell" rfl (.inl rfl) (by decide) (by decide)
  have ls2 := b.ls 2 "_law_cells" rfl (.inl rfl)
  have ls3 := b.ls 3 "_law_at" rfl (.inl rfl)
  have ls4 := b.ls 4 "_law_cell" rfl (.inl rfl)
  have hcalm := b.calm
  have hr0 := b.room.un
  have hu1 : X.A.units + 1 < cLine := by omega
  have hu64 : X.A.units + 64 < cLine := by omega
  have hu65 : X.A.units + 65 < cLine := by omega
  have glen : Gl X "len" := b.gl rfl
  have mlen : X.mg "len" = Option.none := by rw [b.m_]; exact m_len
  conv in defBody _ => whnf
  refine sm_cons (sm1_st 2 ls2 (dm_ix0 (n := 0) (m := 0) (D := B) (dm_ ?_) rfl rfl) rfl) ?_
  · walk_at "ev"
  refine sm_cons (sm1_st 3 ls3 (dm_ix0 (n := 1) (m := 0) (D := B) (dm_ ?_) rfl rfl) rfl) ?_
  · walk_at "ev"
  refine sm_cons (sm1_nx (s1_st (d := .int 0) 4 ls4 de_int rfl)) ?_
  have hlk : (bs.cells.map Dt.int).length = bs.cells.length := List.length_map _
  have hix : 0 < bs.cells.length → bs.at_ % bs.cells.length < bs.cells.length := fun z => Nat.mod_lt _ z
  have e0 : ∀ c : Int, ([some (.raw (.ref B)), some (.int many), some (.raw (.ref C)), some (.int (bs.at_ : Int)), some (.int c)] : En) = ([some (.raw (.ref B)), some (.int many), some (.raw (.ref C)), some (.int (bs.at_ : Int)), some (.int 0)] : En).set 4 (some (.int c)) := fun c => rfl
  refine sm_cons (E' := [some (.raw (.ref B)), some (.int many), some (.raw (.ref C)), some (.int (bs.at_ : Int)), some (.int (cell0 bs))]) (M1 := bagM B C bs) ?_ ?_
  · by_cases hn : 0 < bs.cells.length
    · refine sm1_ifT (M1 := bagM B C bs) (TM.is (tm_cmp cmp_gt (dm_len (m := 1) (D := C) glen mlen (dm_ ?_) rfl rfl) (dm_ de_int)) ?_) ?_
      · walk_at "ev"
      · rw [hlk]
        exact decide_eq_true (by omega)
      · rw [e0]
        refine sm_cons (sm1_st 4 ls4 (dm_ix (m := 1) (n := bs.at_ % bs.cells.length) (D := C) (dm_ ?_) (DM.is (dm_mod (dm_ (de_at 3 nm3 rfl)) (dm_len (m := 1) (D := C) glen mlen (dm_ ?_) rfl rfl) ?_) ?_) rfl ?_ (fun _ _ => rfl)) rfl) sm_nil
        · walk_at "ev"
        · walk_at "ev"
        · rw [hlk]
          omega
        · rw [hlk]; first | rfl | (rw [Int.natCast_emod]) | (rw [Int.ofNat_emod]) | simp
        · rw [List.getElem?_map, List.getElem?_eq_getElem (hix hn), cell0, List.getElem?_eq_getElem (hix hn)]
          rfl
    · refine sm1_ifF (M1 := bagM B C bs) (TM.is (tm_cmp cmp_gt (dm_len (m := 1) (D := C) glen mlen (dm_ ?_) rfl rfl) (dm_ de_int)) ?_) ?_
      · walk_at "ev"
      · rw [hlk]
        exact decide_eq_false (by omega)
      · have hc : cell0 bs = 0 := by
          unfold cell0
          rw [List.getElem?_eq_none (by omega)]
          rfl
        rw [hc]
        exact sm_nil
  have e1 : ∀ c : Int, ([some (.raw (.ref B)), some (.int many), some (.raw (.ref C)), some (.int (bs.at_ : Int)), some (.int c)] : En) = ([some (.raw (.ref B)), some (.int many), some (.raw (.ref C)), some (.int (bs.at_ : Int)), some (.int (cell0 bs))] : En).set 4 (some (.int c)) := fun c => rfl
  refine sm_cons (E' := [some (.raw (.ref B)), some (.int many), some (.raw (.ref C)), some (.int (bs.at_ : Int)), some (.int (cell1 bs))]) (M1 := bagM B C bs) ?_ ?_
  · by_cases hn : cell0 bs < 0
    · have hc : cell1 bs = 1 - cell0 bs := if_pos hn
      rw [hc, e1]
      refine sm1_ifT (tm_ (DT.is (b := decide (cell0 bs < 0)) ?_ (decide_eq_true hn))) (sm_cons (sm1_nx (s1_st 4 ls4 ?_ rfl)) sm_nil)
      · walk_at "et"
      · walk_at "ev"
    · have hc : cell1 bs = cell0 bs := if_neg hn
      rw [hc]
      refine sm1_ifF (tm_ (DT.is (b := decide (cell0 bs < 0)) ?_ (decide_eq_false hn))) sm_nil
      walk_at "et"
  by_cases hbig : 10 ^ 18 ≤ cell1 bs
  · have hR : drawR bs many = cell1 bs % many := if_pos hbig
    have hS : drawS bs many = ⟨bs.cells.set (bs.at_ % bs.cells.length) (cell1 bs / many), bs.at_, bs.st⟩ := if_pos hbig
    have hn : 0 < bs.cells.length := by
      refine Nat.pos_of_ne_zero fun z => ?_
      have hc : cell0 bs = 0 := by
        unfold cell0
        rw [List.getElem?_eq_none (by omega)]
        rfl
      have hc1 : cell1 bs = 0 := by
        unfold cell1
        rw [hc]
        rfl
      rw [hc1] at hbig
      exact absurd hbig (by decide)
    rw [hR, hS]
    refine sm_last (sm1_ifT (tm_ (DT.is (dt_cmp cmp_ge ?_ (de_pow18 de_int de_int)) (decide_eq_true hbig))) (sm_cons (sm1_setL (m := 1) (n := bs.at_ % bs.cells.length) (D := C) (d := .int (cell1 bs / many)) (dm_ ?_) (dm_ ?_) (DM.is (dm_mod (dm_ (de_at 3 nm3 rfl)) (dm_len (m := 1) (D := C) glen mlen (dm_ ?_) rfl rfl) ?_) ?_) rfl ?_ (fun _ => rfl) rfl rfl rfl) ?_))
    · walk_at "ev"
    · walk_at "ev"
    · walk_at "ev"
    · walk_at "ev"
    · rw [hlk]
      omega
    · rw [hlk]; first | rfl | (rw [Int.natCast_emod]) | (rw [Int.ofNat_emod]) | simp
    · rw [hlk]
      exact hix hn
    · have hm : ∀ v : Int, (bagM B C bs).set 1 (C, .lst ((bs.cells.map Dt.int).set (bs.at_ % bs.cells.length) (.int v))) = bagM B C ⟨bs.cells.set (bs.at_ % bs.cells.length) v, bs.at_, bs.st⟩ := fun v => by
        show [_, (C, Dt.lst _)] = [_, (C, Dt.lst _)]
        rw [List.map_set]
      rw [hm]
      exact sm_last (sm1_ret (dm_ (by walk_at "ev")))
  · have hR : drawR bs many = st1 bs * 69621 % 2147483629 / 64 % many := if_neg hbig
    have hS : drawS bs many = ⟨bs.cells, bs.at_ + 1, st1 bs⟩ := if_neg hbig
    rw [hR, hS]
    refine sm_cons (sm1_ifF (tm_ (DT.is (dt_cmp cmp_ge ?_ (de_pow18 de_int de_int)) (decide_eq_false hbig))) sm_nil) ?_
    · walk_at "ev"
    refine sm_cons (sm1_setL (m := 0) (n := 1) (D := B) (d := .int ((bs.at_ : Int) + 1)) (dm_ ?_) (dm_ ?_) (dm_ de_int) rfl (by simp) (fun _ => rfl) rfl rfl rfl) ?_
    · walk_at "ev"
    · walk_at "ev"
    have hm1 : (bagM B C bs).set 0 (B, .lst (([.raw (.ref C), .int (bs.at_ : Int), .int bs.st] : List Dt).set 1 (.int ((bs.at_ : Int) + 1)))) = bagM B C ⟨bs.cells, bs.at_ + 1, bs.st⟩ := rfl
    rw [hm1]
    refine sm_cons (sm1_setL (m := 0) (n := 2) (D := B) (d := .int (st1 bs)) (M1 := bagM B C ⟨bs.cells, bs.at_ + 1, bs.st⟩) ?_ (dm_ ?_) (dm_ de_int) rfl (by simp) (fun _ => rfl) rfl rfl rfl) ?_
    · refine dm_mod (dm_add (dm_add (dm_add (dm_mul (dm_ix0 (n := 2) (m := 0) (D := B) (dm_ ?_) rfl rfl) (dm_ de_int) ?_) (dm_ ?_)) (dm_ ?_)) (dm_ de_int)) (dm_ de_int) ?_
      · walk_at "ev"
      · exact .inr (by omega)
      · refine de_mul ?_ de_int (.inr (by omega))
        walk_at "ev"
      · refine de_mul ?_ de_int (.inr (by omega))
        walk_at "ev"
      · decide
    · walk_at "ev"
    have hm2 : (bagM B C ⟨bs.cells, bs.at_ + 1, bs.st⟩).set 0 (B, .lst (([.raw (.ref C), .int ((bs.at_ + 1 : Nat) : Int), .int bs.st] : List Dt).set 2 (.int (st1 bs)))) = bagM B C ⟨bs.cells, bs.at_ + 1, st1 bs⟩ := rfl
    rw [hm2]
    refine sm_last (sm1_ret (dm_mod (dm_fdiv (dm_mod (dm_mul (dm_ix0 (n := 2) (m := 0) (D := B) (dm_ ?_) rfl rfl) (dm_ de_int) ?_) (dm_ de_int) ?_) (dm_ de_int) ?_) (dm_ ?_) ?_))
    · walk_at "ev"
    · exact .inr (by omega)
    · decide
    · exact ⟨by decide, by decide⟩
    · walk_at "ev"
    · exact h.1
end
end Br

-- BrJ
namespace Br
open PySem L2 PySem.Spec PyProof.Rows
local macro_rules | `(tactic| walk_at "side") => `(tactic| first | assumption | omega | decide | (left; constructor <;> omega) | (right; constructor <;> omega) | (constructor <;> omega))
set_option hygiene false in
local macro_rules | `(tactic| walk_at "nm") => `(tactic| first
  | ((with_reducible apply de_at 0 nm0); rfl)
  | ((with_reducible apply de_at 1 nm1); rfl)
  | ((with_reducible apply de_at 2 nm2); rfl)
  | ((with_reducible apply de_at 3 nm3); rfl)
  | ((with_reducible apply de_at 4 nm4); rfl)
  | ((with_reducible apply de_at 5 nm5); rfl)
  | ((with_reducible apply de_at 6 nm6); rfl)
  | ((with_reducible apply de_at 7 nm7); rfl)
  | ((with_reducible apply de_at 8 nm8); rfl)
  | ((with_reducible apply de_at 9 nm9); rfl)
  | ((with_reducible apply de_at 10 nm10); rfl)
  | ((with_reducible apply de_at 11 nm11); rfl)
  | ((with_reducible apply de_at 12 nm12); rfl)
  | ((with_reducible apply de_at 13 nm13); rfl)
  | ((with_reducible apply de_at 14 nm14); rfl)
  | ((with_reducible apply de_at 15 nm15); rfl))
set_option hygiene false in
local macro_rules | `(tactic| walk_at "gf") => `(tactic| first | (with_reducible apply de_gf gf0) | (with_reducible apply de_gf gf1) | (with_reducible apply de_gf gf2) | (with_reducible apply de_gf gf3) | (with_reducible apply de_gf gf4) | (with_reducible apply de_gf gf5))
set_option hygiene false in
local macro_rules | `(tactic| walk_at "ev") => `(tactic| first
  | walk_at "nm" | exact de_int | exact de_bool | exact de_non
  | (apply de_add; walk_at "ev"; walk_at "ev") | (apply de_sub; walk_at "ev"; walk_at "ev")
  | (apply de_mul; walk_at "ev"; walk_at "ev"; walk_at "side")
  | (apply de_mod; walk_at "ev"; walk_at "ev"; walk_at "side")
  | (apply de_fdiv; walk_at "ev"; walk_at "ev"; walk_at "side")
  | (apply de_ixT0; walk_at "ev"; rfl)
  | (apply de_ixL0; walk_at "ev"; rfl)
  | (apply de_cmp cmp_eq; walk_at "ev"; walk_at "ev") | (apply de_cmp cmp_ne; walk_at "ev"; walk_at "ev") | (apply de_cmp cmp_lt; walk_at "ev"; walk_at "ev")
  | (apply de_cmp cmp_le; walk_at "ev"; walk_at "ev") | (apply de_cmp cmp_gt; walk_at "ev"; walk_at "ev")
  | (apply de_chain cmp_le cmp_le (by with_unfolding_all rfl); walk_at "ev"; walk_at "ev"; walk_at "ev")
  | (apply de_one; walk_at "ev")
  | (apply de_and; walk_at "ev"; (intro _); walk_at "ev")
  | (apply de_or; walk_at "ev"; (intro _); walk_at "ev")
  | (apply de_not; walk_at "ev")
  | (apply de_tup; walk_at "evs"; exact len_ok rfl)
  | (apply de_lst; walk_at "evs"; exact len_ok rfl)
  | (apply de_min2 hcalm gmin mmin; walk_at "ev"; walk_at "ev"; rfl; rfl) | (apply de_max2 hcalm gmax mmax; walk_at "ev"; walk_at "ev"; rfl; rfl)
  | (walk_at "gf"; walk_at "evs"; walk_at "call"; rfl; rfl; rfl))
set_option hygiene false in
local macro_rules | `(tactic| walk_at "evs") => `(tactic| first | exact da_nil | (apply da_cons; walk_at "ev"; walk_at "evs"; rfl))
set_option hygiene false in
local macro_rules | `(tactic| walk_at "et") => `(tactic| first
  | (apply dt_cmp cmp_eq; walk_at "ev"; walk_at "ev") | (apply dt_cmp cmp_ne; walk_at "ev"; walk_at "ev") | (apply dt_cmp cmp_lt; walk_at "ev"; walk_at "ev")
  | (apply dt_cmp cmp_le; walk_at "ev"; walk_at "ev") | (apply dt_cmp cmp_gt; walk_at "ev"; walk_at "ev")
  | (apply dt_eqP hu64; walk_at "ev"; walk_at "ev") | (apply dt_in hu1; walk_at "ev"; walk_at "ev"; rfl) | (apply dt_notin hu1; walk_at "ev"; walk_at "ev"; rfl)
  | (apply dt_not; walk_at "et")
  | (apply dt_w; walk_at "ew")
  | (apply dt_val; walk_at "ev"; (intro _); rfl))
set_option hygiene false in
local macro_rules | `(tactic| walk_at "ew") => `(tactic| first
  | (apply dw_and1; walk_at "et") | (apply dw_or1; walk_at "et")
  | (apply dw_and; walk_at "et"; (intro _); walk_at "ew")
  | (apply dw_or; walk_at "et"; (intro _); walk_at "ew"))
local macro_rules | `(tactic| walk_at "call") => `(tactic| (constructor <;> walk_at "side"))
theorem de_cat {X : Cx} {E : En} {a b : Expr} {pos : Pos} {ds es : List Dt} (ha : DE X E a (.lst ds)) (hb : DE X E b (.lst es)) (hz : ds.length + es.length ≤ sizeLine) : DE X E (.BinOp a .Add b pos) (.lst (ds ++ es)) :=
  let ⟨_, p1, r1⟩ := ha; let ⟨_, p2, r2⟩ := hb; ⟨_, pe_op op_cat p1 p2, ev_two r1 r2 fun Hf H x y Q s rx ry q => by
    cases rx with
    | lst h1 q1 => cases ry with
      | lst h2 q2 => exact ⟨_, _, _, _, rfl, rfl, s _ _ h1, s _ _ h2, by rw [q1.length, q2.length]; exact hz, fun p hp => q _ _ _ (Fr2.new s hp _) (.lst upd_same ((q1.append q2).mono (Fr2.new s hp _).f))⟩⟩
structure PL where
  w : Int
  d : Int
  s : Int
deriving DecidableEq
abbrev plD (p : PL) : Dt := pl p.w p.d p.s
def menuL : List PL := [⟨1, 1, 2⟩, ⟨1, 1, 4⟩, ⟨2, 1, 2⟩, ⟨1, 2, 2⟩, ⟨2, 2, 2⟩, ⟨1, 1, 4⟩, ⟨3, 1, 2⟩, ⟨1, 3, 2⟩, ⟨2, 1, 4⟩, ⟨1, 2, 4⟩, ⟨3, 2, 2⟩, ⟨1, 1, 8⟩]
def planF (bs : BagS) : PL := (menuL[(drawR bs 12).toNat]?).getD ⟨1, 1, 2⟩
theorem planF_at (bs : BagS) : menuL[(drawR bs 12).toNat]? = some (planF bs) := by
  have h := draw_lt bs (many := 12) (by decide)
  have hl : (drawR bs 12).toNat < menuL.length := by
    show _ < 12
    omega
  rw [planF, List.getElem?_eq_getElem hl]
  rfl
theorem menu_ok : ∀ p ∈ menuL, Small p.w p.d p.s := by
  intro p hp
  have : ∀ p ∈ menuL, (0 < p.w ∧ p.w ≤ 8) ∧ (0 < p.d ∧ p.d ≤ 8) ∧ (p.s = 2 ∨ p.s = 4 ∨ p.s = 8) := by decide
  obtain ⟨h1, h2, h3⟩ := this p hp
  exact ⟨h1, h2, h3⟩
theorem planF_in (bs : BagS) : planF bs ∈ menuL := List.mem_of_getElem? (planF_at bs)
inductive RPlan : List Dt → Mu → Dt → Mu → Prop
  | mk {B C : Addr} {bs : BagS} : RPlan [.raw (.ref B)] (bagM B C bs) (plD (planF bs)) (bagM B C (drawS bs 12))
/-! ### picks -/
def fltF (many : Int) (t : Int → Bool) : List (Int × Int) → BagS → List (Int × Int) × BagS
  | [], bs => ([], bs)
  | p :: ps, bs => if t (drawR bs many) = true then (p :: (fltF many t ps (drawS bs many)).1, (fltF many t ps (drawS bs many)).2) else fltF many t ps (drawS bs many)
def pickF (every : List (Int × Int)) : Nat → BagS → List (Int × Int) × BagS
  | 0, bs => ([], bs)
  | n + 1, bs => ((every[(drawR bs (every.length : Int)).toNat]?).getD (0, 0) :: (pickF every n (drawS bs (every.length : Int))).1, (pickF every n (drawS bs (every.length : Int))).2)
def picksF (every : List (Int × Int)) (bs : BagS) : List (Int × Int) × BagS :=
  if drawR bs 11 = 0 then ([], drawS bs 11) else if drawR bs 11 = 1 then (every, drawS bs 11) else if drawR bs 11 < 4 then fltF 2 (fun r => decide (r = 1)) every (drawS bs 11)
  else if drawR bs 11 < 6 then fltF 5 (fun r => decide (0 < r)) every (drawS bs 11) else pickF every (1 + drawR (drawS bs 11) 7).toNat (drawS (drawS bs 11) 7)
theorem fltF_in (many : Int) (t : Int → Bool) : ∀ (ps : List (Int × Int)) (bs : BagS), ∀ p ∈ (fltF many t ps bs).1, p ∈ ps
  | [], _, p, h => by simp [fltF] at h
  | q :: ps, bs, p, h => by
    unfold fltF at h
    split at h
    · rcases List.mem_cons.mp h with h | h
      · rw [h]; exact List.mem_cons_self
      · exact List.mem_cons_of_mem _ (fltF_in many t ps _ p h)
    · exact List.mem_cons_of_mem _ (fltF_in many t ps _ p h)
theorem every_at {every : List (Int × Int)} (h : 0 < every.length) (bs : BagS) : every[(drawR bs (every.length : Int)).toNat]? = some ((every[(drawR bs (every.length : Int)).toNat]?).getD (0, 0)) := by
  have h2 := draw_lt bs (many := (every.length : Int)) (by omega)
  have hl : (drawR bs (every.length : Int)).toNat < every.length := by omega
  rw [List.getElem?_eq_getElem hl]
  rfl
theorem pickF_in {every : List (Int × Int)} (h : 0 < every.length) : ∀ (n : Nat) (bs : BagS), ∀ p ∈ (pickF every n bs).1, p ∈ every
  | 0, _, p, hp => by simp [pickF] at hp
  | n + 1, bs, p, hp => by
    rcases List.mem_cons.mp hp with hp | hp
    · rw [hp]; exact List.mem_of_getElem? (every_at h bs)
    · exact pickF_in h n _ p hp
theorem picksF_in {every : List (Int × Int)} (h : 0 < every.length) (bs : BagS) : ∀ p ∈ (picksF every bs).1, p ∈ every := by
  intro p hp
  unfold picksF at hp
  split at hp
  · simp at hp
  split at hp
  · exact hp
  split at hp
  · exact fltF_in _ _ _ _ p hp
  split at hp
  · exact fltF_in _ _ _ _ p hp
  · exact pickF_in h _ _ p hp
theorem fltF_len (many : Int) (t : Int → Bool) : ∀ (ps : List (Int × Int)) (bs : BagS), (fltF many t ps bs).1.length ≤ ps.length
  | [], _ => Nat.le_refl _
  | q :: ps, bs => by
    unfold fltF
    split
    · exact Nat.succ_le_succ (fltF_len many t ps _)
    · exact Nat.le_succ_of_le (fltF_len many t ps _)
theorem pickF_len (every : List (Int × Int)) : ∀ (n : Nat) (bs : BagS), (pickF every n bs).1.length = n
  | 0, _ => rfl
  | n + 1, bs => congrArg Nat.succ (pickF_len every n _)
theorem picksF_len (every : List (Int × Int)) (bs : BagS) : (picksF every bs).1.length ≤ every.length + 8 := by
  unfold picksF
  split
  · exact Nat.zero_le _
  split
  · exact Nat.le_add_right _ _
  split
  · exact Nat.le_add_right_of_le (fltF_len _ _ _ _)
  split
  · exact Nat.le_add_right_of_le (fltF_len _ _ _ _)
  · rw [pickF_len]
    have := draw_lt (drawS bs 11) (many := 7) (by decide)
    omega
inductive RPicks : List Dt → Mu → Dt → Mu → Prop
  | mk {B C : Addr} {bs : BagS} {w d s : Int} (h : Small w d s) (hc : 0 < (cutsL w d s).length) : RPicks [.raw (.ref B), pl w d s] (bagM B C bs) (.lst (ptsD (picksF (cutsL w d s) bs).1)) (bagM B C (picksF (cutsL w d s) bs).2)
theorem cuts_len {w d s : Int} (h : Small w d s) : (cutsL w d s).length ≤ 4225 := Nat.le_trans (List.length_filter_le _ _) (places_len h)
theorem lc_flt {C : Cx → Prop} {E : En} {i : Nat} {e elt : Expr} {many : Int} {t : Int → Bool} {B CC : Addr} (h1 : ∀ c, C c → ∀ (q : Int × Int) (bs : BagS), TM c (E.set i (some (pt q.1 q.2))) (bagM B CC bs) e (t (drawR bs many)) (bagM B CC (drawS bs many)))
    (h2 : ∀ c, C c → ∀ (q : Int × Int) (bs : BagS), DM c (E.set i (some (pt q.1 q.2))) (bagM B CC bs) elt (pt q.1 q.2) (bagM B CC bs)) : ∀ (ps : List (Int × Int)) (bs : BagS), LcM C E i [e] elt (ptsD ps) (bagM B CC bs) (ptsD (fltF many t ps bs).1) (bagM B CC (fltF many t ps bs).2)
  | [], bs => .nil
  | p :: ps, bs => by
    unfold fltF
    cases ht : t (drawR bs many) with
    | true =>
      rw [if_pos rfl]
      exact .keep (.one (fun c hc => (h1 c hc p bs).is ht) rfl) (fun c hc => h2 c hc p _) rfl (lc_flt h1 h2 ps _)
    | false =>
      rw [if_neg Bool.false_ne_true]
      exact .drop (.one (fun c hc => (h1 c hc p bs).is ht) rfl) (lc_flt h1 h2 ps _)
theorem lc_pick {C : Cx → Prop} {E : En} {i : Nat} {elt : Expr} {every : List (Int × Int)} {B CC : Addr} (h2 : ∀ c, C c → ∀ (k : Int) (bs : BagS), DM c (E.set i (some (.int k))) (bagM B CC bs) elt (pt ((every[(drawR bs (every.length : Int)).toNat]?).getD (0, 0)).1 ((every[(drawR bs (every.length : Int)).toNat]?).getD (0, 0)).2) (bagM B CC (drawS bs (every.length : Int)))) :
    ∀ (ks : List Int) (bs : BagS), LcM C E i [] elt (ks.map Dt.int) (bagM B CC bs) (ptsD (pickF every ks.length bs).1) (bagM B CC (pickF every ks.length bs).2)
  | [], bs => .nil
  | k :: ks, bs => .keep .nil (fun c hc => h2 c hc k bs) rfl (lc_pick h2 ks _)
theorem lc_pickR {C : Cx → Prop} {E : En} {i : Nat} {elt : Expr} {every : List (Int × Int)} {B CC : Addr} (h2 : ∀ c, C c → ∀ (k : Int) (bs : BagS), DM c (E.set i (some (.int k))) (bagM B CC bs) elt (pt ((every[(drawR bs (every.length : Int)).toNat]?).getD (0, 0)).1 ((every[(drawR bs (every.length : Int)).toNat]?).getD (0, 0)).2) (bagM B CC (drawS bs (every.length : Int))))
    (n : Nat) (bs : BagS) : LcM C E i [] elt ((List.range n).map fun k : Nat => Dt.int ((0 : Int) + (k : Int))) (bagM B CC bs) (ptsD (pickF every n bs).1) (bagM B CC (pickF every n bs).2) := by
  have := lc_pick h2 ((List.range n).map fun k : Nat => (0 : Int) + (k : Int)) bs
  rw [List.length_map, List.length_range, List.map_map] at this
  exact this
/-! ### closed -/
/-- the end of the while loop, if reached within n turns -/
def closeF (ups : Int × Int → List (Int × Int)) : Nat → List (Int × Int) → List (Int × Int) → Option (List (Int × Int))
  | 0, _, _ => none
  | n + 1, todo, there => match todo.reverse with
    | [] => some there
    | p :: r => if p ∈ there then closeF ups n r.reverse there else closeF ups n (r.reverse ++ ups p) (there ++ [p])
inductive RClosed : List Dt → Dt → Prop
  | mk {w d s : Int} {ps there : List (Int × Int)} {n : Nat} (h : Small w d s) (hn : n ≤ 100000) (hl : ps.length ≤ 5000) (hc : closeF (fun p => upsL w d s p.1 p.2) n ps [] = some there) : RClosed [pl w d s, .lst (ptsD ps)] (.lst (ptsD (sortP there)))
/-! ### mixed -/
def mixF : Nat → List (Int × Int) → List (Int × Int) → BagS → List (Int × Int) × BagS
  | 0, _, found, bs => (found, bs)
  | n + 1, left, found, bs => mixF n (left.eraseIdx (drawR bs (left.length : Int)).toNat) (found ++ [(left[(drawR bs (left.length : Int)).toNat]?).getD (0, 0)]) (drawS bs (left.length : Int))
theorem erase_perm {α : Type} : ∀ (l : List α) (i : Nat) (h : i < l.length), (l[i] :: l.eraseIdx i).Perm l
  | a :: l, 0, _ => .refl _
  | a :: l, i + 1, h => by
    have h' : i < l.length := Nat.lt_of_succ_lt_succ h
    have ih := erase_perm l i h'
    show (l[i]'h' :: a :: l.eraseIdx i).Perm (a :: l)
    exact (List.Perm.swap a (l[i]'h') _).trans (ih.cons a)
theorem mixF_perm : ∀ (n : Nat) (left found : List (Int × Int)) (bs : BagS), left.length = n → (mixF n left found bs).1.Perm (found ++ left)
  | 0, left, found, bs, h => by
    rw [List.length_eq_zero_iff.mp h, List.append_nil]
    exact .refl _
  | n + 1, left, found, bs, h => by
    have h2 := draw_lt bs (many := (left.length : Int)) (by omega)
    have hl : (drawR bs (left.length : Int)).toNat < left.length := by omega
    have ih := mixF_perm n (left.eraseIdx (drawR bs (left.length : Int)).toNat) (found ++ [(left[(drawR bs (left.length : Int)).toNat]?).getD (0, 0)]) (drawS bs (left.length : Int)) (by rw [List.length_eraseIdx, if_pos hl]; omega)
    refine ih.trans ?_
    rw [List.append_assoc]
    refine List.Perm.append_left _ ?_
    rw [List.getElem?_eq_getElem hl, Option.getD_some, List.singleton_append]
    exact erase_perm left _ hl
inductive RMixed : List Dt → Mu → Dt → Mu → Prop
  | mk {B C : Addr} {bs : BagS} {ps : List (Int × Int)} (hl : ps.length ≤ 5000) : RMixed [.raw (.ref B), .lst (ptsD ps)] (bagM B C bs) (.lst (ptsD (mixF ps.length ps [] bs).1)) (bagM B C (mixF ps.length ps [] bs).2)
section
variable {P : Program} {w : World} {K : PySem.W.Frag} {mg : Str → Option Value} {base : Heap}
theorem sc_plan : FnScope ["_law_bag_here", "_law_menu"] ["_law_bag_here"] (defScope sPlan) := ⟨rfl, rfl, rfl, by decide +kernel, rfl, by decide +kernel, by decide +kernel⟩
theorem ok_plan {f : Addr} {fd : FuncData} (F : Fun K "_law_plan" "_law_plan" sPlan f fd) (gD : Fn P w K mg base 1 "_law_draw" 2 (spM 2 RDraw)) : FnOk P w K mg base CX0 2 f fd ["_law_bag_here"] (spM 1 RPlan) := by
  refine fn_okM F sc_plan (by decide) fun X b ds M r M' hl hR => ?_
  cases hR with | @mk B C bs => ?_
  have nm0 := b.nm 0 "_law_bag_here" rfl (.inl rfl) (by decide) (by decide)
  have nm1 := b.nm 1 "_law_menu" rfl (.inl rfl) (by decide) (by decide)
  have ls1 := b.ls 1 "_law_menu" rfl (.inl rfl)
  have hcalm := b.calm
  have hr0 := b.room.un
  have hu1 : X.A.units + 1 < cLine := by omega
  have hu64 : X.A.units + 64 < cLine := by omega
  have hu65 : X.A.units + 65 < cLine := by omega
  have gm0 := b.gm gD (by decide) rfl (by decide)
  conv in defBody _ => whnf
  refine sm_cons (sm1_nx (s1_st (d := .lst ((menuL.take 6).map plD)) 1 ls1 ?_ rfl)) ?_
  · show DE X _ _ (.lst [pl 1 1 2, pl 1 1 4, pl 2 1 2, pl 1 2 2, pl 2 2 2, pl 1 1 4])
    walk_at "ev"
  refine sm_cons (sm1_nx (s1_st (d := .lst (menuL.map plD)) 1 ls1 ?_ rfl)) ?_
  · refine de_cat (ds := (menuL.take 6).map plD) (es := (menuL.drop 6).map plD) ?_ ?_ (by decide)
    · walk_at "ev"
    · show DE X _ _ (.lst [pl 3 1 2, pl 1 3 2, pl 2 1 4, pl 1 2 4, pl 3 2 2, pl 1 1 8])
      walk_at "ev"
  have h := draw_lt bs (many := 12) (by decide)
  refine sm_last (sm1_ret (dm_ixD (n := (drawR bs 12).toNat) (ds := menuL.map plD) (dm_ ?_) (DM.is (dm_call (Mr := []) gm0 (am_ ?_) (.mk ⟨by decide, by decide⟩) rfl rfl rfl rfl) ?_) ?_ (fun _ _ => rfl)))
  · walk_at "ev"
  · walk_at "evs"
  · rw [Int.toNat_of_nonneg h.1]
  · rw [List.getElem?_map, planF_at]
    rfl
theorem sc_picks : FnScope ["_law_bag_here", "_law_plan_here", "_law_every", "_law_kind", "_law_at", "_law_k"] ["_law_bag_here", "_law_plan_here"] (defScope sPicks) := ⟨rfl, rfl, rfl, by decide +kernel, rfl, by decide +kernel, by decide +kernel⟩
theorem ok_picks {f : Addr} {fd : FuncData} (F : Fun K "_law_picks" "_law_picks" sPicks f fd) (gD : Fn P w K mg base 1 "_law_draw" 2 (spM 2 RDraw)) (gC : Fn P w K mg base 2 "_law_cuts" 1 (spD 1 RCuts)) (m_len : mg "len" = Option.none) (m_range : mg "range" = Option.none) : FnOk P w K mg base CX0 3 f fd ["_law_bag_here", "_law_plan_here"] (spM 2 RPicks) := by
  refine fn_okM F sc_picks (by decide) fun X b ds M r M' hl hR => ?_
  cases hR with | @mk B C bs w d s h hc => ?_
  have nm0 := b.nm 0 "_law_bag_here" rfl (.inr (.inl rfl)) (by decide) (by decide)
  have nm1 := b.nm 1 "_law_plan_here" rfl (.inl rfl) (by decide) (by decide)
  have nm2 := b.nm 2 "_law_every" rfl (.inr (.inl rfl)) (by decide) (by decide)
  have nm3 := b.nm 3 "_law_kind" rfl (.inl rfl) (by decide) (by decide)
  have ls2 := b.ls 2 "_law_every" rfl (.inr rfl)
  have ls3 := b.ls 3 "_law_kind" rfl (.inl rfl)
  have gf0 := b.gf gC (by decide) rfl (by decide)
  have hcalm := b.calm
  have hr0 := b.room.un
  have hu1 : X.A.units + 1 < cLine := by omega
  have hu64 : X.A.units + 64 < cLine := by omega
  have hu65 : X.A.units + 65 < cLine := by omega
  have grange : Gl X "range" := b.gl rfl
  have mrange : X.mg "range" = Option.none := by rw [b.m_]; exact m_range
  have gm0 := b.gm gD (by decide) rfl (by decide)
  have hlen := cuts_len h
  conv in defBody _ => whnf
  refine sm_cons (sm1_nx (s1_st (d := .lst (ptsD (cutsL w d s))) 2 ls2 ?_ rfl)) ?_
  · apply de_gf gf0
    · walk_at "evs"
    · exact .mk h
    all_goals rfl
  generalize cutsL w d s = every at hc hlen ⊢
  refine sm_cons (sm1_st (d := .int (drawR bs 11)) (M1 := bagM B C (drawS bs 11)) 3 ls3 (dm_call (Mr := []) gm0 (am_ ?_) (.mk ⟨by decide, by decide⟩) rfl rfl rfl rfl) rfl) ?_
  · walk_at "evs"
  unfold picksF
  by_cases k0 : drawR bs 11 = 0
  · simp only [if_pos k0]
    refine sm_last (sm1_ifT (tm_ (DT.is ?_ (decide_eq_true k0))) (sm_rt (ss_last (s1_ret (de_lst da_nil (Nat.zero_le _))))))
    walk_at "et"
  simp only [if_neg k0]
  refine sm_cons (sm1_ifF (tm_ (DT.is ?_ (decide_eq_false k0))) sm_nil) ?_
  · walk_at "et"
  by_cases k1 : drawR bs 11 = 1
  · simp only [if_pos k1]
    refine sm_last (sm1_ifT (tm_ (DT.is ?_ (decide_eq_true k1))) (sm_rt (ss_last (s1_ret ?_))))
    · walk_at "et"
    · walk_at "ev"
  simp only [if_neg k1]
  refine sm_cons (sm1_ifF (tm_ (DT.is ?_ (decide_eq_false k1))) sm_nil) ?_
  · walk_at "et"
  by_cases k2 : drawR bs 11 < 4
  · simp only [if_pos k2]
    refine sm_last (sm1_ifT (tm_ (DT.is ?_ (decide_eq_true k2))) (sm_last (sm1_ret (dm_lc (i := 4) (ds := ptsD every) b.calm (by rw [b.n_]; exact b.nd) (blkOk_by (by rw [b.n_, b.sc]; decide +kernel)) (blk_pg (i := 4) (by rw [b.n_]; exact b.nd) (by rw [b.n_]; rfl) rfl (by rw [b.sc]; exact .inl rfl) (by rw [b.sc]; rfl)) (by decide) (fun _ => rfl) (id_list (dm_ ?_)) ?_ (lc_flt (many := 2) (t := fun r => decide (r = 1)) (fun cx cb q bs => ?_) (fun cx cb q bs => ?_) every _)))))
    · walk_at "et"
    · walk_at "ev"
    · rw [List.length_map]
      exact Nat.lt_of_le_of_lt hlen (by decide)
    · skip
      have gm0 := cb.gm b gD (by decide) rfl (by decide)
      have nm0 := cb.nm 0 "_law_bag_here" (by rw [b.n_]; rfl) (by rw [b.sc]; exact .inr (.inl rfl)) (by decide) (by decide)
      have nm4 := cb.nm 4 "_law_at" (by rw [b.n_]; rfl) (by rw [b.sc]; exact .inl rfl) (by decide) (by decide)
      refine tm_cmp cmp_eq (dm_call (Mr := []) gm0 (am_ ?_) (.mk ⟨by decide, by decide⟩) rfl rfl rfl rfl) (dm_ de_int)
      walk_at "evs"
    · skip
      have gm0 := cb.gm b gD (by decide) rfl (by decide)
      have nm0 := cb.nm 0 "_law_bag_here" (by rw [b.n_]; rfl) (by rw [b.sc]; exact .inr (.inl rfl)) (by decide) (by decide)
      have nm4 := cb.nm 4 "_law_at" (by rw [b.n_]; rfl) (by rw [b.sc]; exact .inl rfl) (by decide) (by decide)
      refine dm_ (de_at 4 nm4 ?_)
      rfl
  simp only [if_neg k2]
  refine sm_cons (sm1_ifF (tm_ (DT.is ?_ (decide_eq_false k2))) sm_nil) ?_
  · walk_at "et"
  by_cases k3 : drawR bs 11 < 6
  · simp only [if_pos k3]
    refine sm_last (sm1_ifT (tm_ (DT.is ?_ (decide_eq_true k3))) (sm_last (sm1_ret (dm_lc (i := 4) (ds := ptsD every) b.calm (by rw [b.n_]; exact b.nd) (blkOk_by (by rw [b.n_, b.sc]; decide +kernel)) (blk_pg (i := 4) (by rw [b.n_]; exact b.nd) (by rw [b.n_]; rfl) rfl (by rw [b.sc]; exact .inl rfl) (by rw [b.sc]; rfl)) (by decide) (fun _ => rfl) (id_list (dm_ ?_)) ?_ (lc_flt (many := 5) (t := fun r => decide (0 < r)) (fun cx cb q bs => ?_) (fun cx cb q bs => ?_) every _)))))
    · walk_at "et"
    · walk_at "ev"
    · rw [List.length_map]
      exact Nat.lt_of_le_of_lt hlen (by decide)
    · skip
      have gm0 := cb.gm b gD (by decide) rfl (by decide)
      have nm0 := cb.nm 0 "_law_bag_here" (by rw [b.n_]; rfl) (by rw [b.sc]; exact .inr (.inl rfl)) (by decide) (by decide)
      have nm4 := cb.nm 4 "_law_at" (by rw [b.n_]; rfl) (by rw [b.sc]; exact .inl rfl) (by decide) (by decide)
      refine tm_cmp cmp_gt (dm_call (Mr := []) gm0 (am_ ?_) (.mk ⟨by decide, by decide⟩) rfl rfl rfl rfl) (dm_ de_int)
      walk_at "evs"
    · skip
      have gm0 := cb.gm b gD (by decide) rfl (by decide)
      have nm0 := cb.nm 0 "_law_bag_here" (by rw [b.n_]; rfl) (by rw [b.sc]; exact .inr (.inl rfl)) (by decide) (by decide)
      have nm4 := cb.nm 4 "_law_at" (by rw [b.n_]; rfl) (by rw [b.sc]; exact .inl rfl) (by decide) (by decide)
      refine dm_ (de_at 4 nm4 ?_)
      rfl
  simp only [if_neg k3]
  refine sm_cons (sm1_ifF (tm_ (DT.is ?_ (decide_eq_false k3))) sm_nil) ?_
  · walk_at "et"
  have h7 := draw_lt (drawS bs 11) (many := 7) (by decide)
  have hcn : (0 : Int) < (every.length : Int) ∧ (every.length : Int) < 1073741824 := by omega
  refine sm_last (sm1_ret (dm_lc (i := 5) (M1 := bagM B C (drawS (drawS bs 11) 7)) b.calm (by rw [b.n_]; exact b.nd) (blkOk_by (by rw [b.n_, b.sc]; decide +kernel)) (blk_pg (i := 5) (by rw [b.n_]; exact b.nd) (by rw [b.n_]; rfl) rfl (by rw [b.sc]; exact .inl rfl) (by rw [b.sc]; rfl)) (by decide) (fun _ => rfl) (id_range1 (n := (1 + drawR (drawS bs 11) 7).toNat) grange mrange (DM.is (dm_add (dm_ de_int) (dm_call (Mr := []) gm0 (am_ ?_) (.mk ⟨by decide, by decide⟩) rfl rfl rfl rfl)) ?_) (by omega) rfl) ?_ (lc_pickR (every := every) (fun cx cb kk bs => ?_) _ _)))
  · walk_at "evs"
  · rw [Int.toNat_of_nonneg (by omega)]
  · rw [ints_len]
    exact Nat.lt_of_lt_of_le (show (1 + drawR (drawS bs 11) 7).toNat < 100 by omega) (by decide)
  · skip
    have gm0 := cb.gm b gD (by decide) rfl (by decide)
    have nm0 := cb.nm 0 "_law_bag_here" (by rw [b.n_]; rfl) (by rw [b.sc]; exact .inr (.inl rfl)) (by decide) (by decide)
    have nm2 := cb.nm 2 "_law_every" (by rw [b.n_]; rfl) (by rw [b.sc]; exact .inr (.inl rfl)) (by decide) (by decide)
    have gl : Gl cx "len" := cb.gl (by rw [b.sc]; rfl)
    have ml : cx.mg "len" = Option.none := by
      obtain ⟨_, _, _, _, _, rfl⟩ := cb.eq
      show X.mg _ = _
      rw [b.m_]
      exact m_len
    refine dm_ixD (n := (drawR bs (every.length : Int)).toNat) (ds := ptsD every) (dm_ (de_at 2 nm2 rfl)) (DM.is (dm_call (Mr := []) gm0 (ds := [.raw (.ref B), .int (every.length : Int)]) (am_ (da_cons (de_at 0 nm0 rfl) (da_cons (DE.is (de_len gl ml (de_at 2 nm2 rfl) rfl) (by rw [List.length_map])) da_nil rfl) rfl)) (.mk hcn) rfl rfl rfl rfl) ?_) ?_ (fun _ _ => rfl)
    · rw [Int.toNat_of_nonneg (draw_lt bs hcn.1).1]
    · rw [List.getElem?_map, every_at hc]
      rfl
end
end Br

-- BrK
namespace Br
open PySem L2 PySem.Spec PyProof.Rows
local macro_rules | `(tactic| walk_at "side") => `(tactic| first | assumption | omega | decide | (left; constructor <;> omega) | (right; constructor <;> omega) | (constructor <;> omega))
set_option hygiene false in
local macro_rules | `(tactic| walk_at "nm") => `(tactic| first
  | ((with_reducible apply de_at 0 nm0); rfl)
  | ((with_reducible apply de_at 1 nm1); rfl)
  | ((with_reducible apply de_at 2 nm2); rfl)
  | ((with_reducible apply de_at 3 nm3); rfl)
  | ((with_reducible apply de_at 4 nm4); rfl)
  | ((with_reducible apply de_at 5 nm5); rfl)
  | ((with_reducible apply de_at 6 nm6); rfl)
  | ((with_reducible apply de_at 7 nm7); rfl)
  | ((with_reducible apply de_at 8 nm8); rfl)
  | ((with_reducible apply de_at 9 nm9); rfl)
  | ((with_reducible apply de_at 10 nm10); rfl)
  | ((with_reducible apply de_at 11 nm11); rfl)
  | ((with_reducible apply de_at 12 nm12); rfl)
  | ((with_reducible apply de_at 13 nm13); rfl)
  | ((with_reducible apply de_at 14 nm14); rfl)
  | ((with_reducible apply de_at 15 nm15); rfl))
set_option hygiene false in
local macro_rules | `(tactic| walk_at "gf") => `(tactic| first | (with_reducible apply de_gf gf0) | (with_reducible apply de_gf gf1) | (with_reducible apply de_gf gf2) | (with_reducible apply de_gf gf3) | (with_reducible apply de_gf gf4) | (with_reducible apply de_gf gf5))
set_option hygiene false in
local macro_rules | `(tactic| walk_at "ev") => `(tactic| first
  | walk_at "nm" | exact de_int | exact de_bool | exact de_non
  | (apply de_add; walk_at "ev"; walk_at "ev") | (apply de_sub; walk_at "ev"; walk_at "ev")
  | (apply de_mul; walk_at "ev"; walk_at "ev"; walk_at "side")
  | (apply de_mod; walk_at "ev"; walk_at "ev"; walk_at "side")
  | (apply de_fdiv; walk_at "ev"; walk_at "ev"; walk_at "side")
  | (apply de_ixT0; walk_at "ev"; rfl)
  | (apply de_ixL0; walk_at "ev"; rfl)
  | (apply de_cmp cmp_eq; walk_at "ev"; walk_at "ev") | (apply de_cmp cmp_ne; walk_at "ev"; walk_at "ev") | (apply de_cmp cmp_lt; walk_at "ev"; walk_at "ev")
  | (apply de_cmp cmp_le; walk_at "ev"; walk_at "ev") | (apply de_cmp cmp_gt; walk_at "ev"; walk_at "ev")
  | (apply de_chain cmp_le cmp_le (by with_unfolding_all rfl); walk_at "ev"; walk_at "ev"; walk_at "ev")
  | (apply de_one; walk_at "ev")
  | (apply de_and; walk_at "ev"; (intro _); walk_at "ev")
  | (apply de_or; walk_at "ev"; (intro _); walk_at "ev")
  | (apply de_not; walk_at "ev")
  | (apply de_tup; walk_at "evs"; exact len_ok rfl)
  | (apply de_lst; walk_at "evs"; exact len_ok rfl)
  | (apply de_min2 hcalm gmin mmin; walk_at "ev"; walk_at "ev"; rfl; rfl) | (apply de_max2 hcalm gmax mmax; walk_at "ev"; walk_at "ev"; rfl; rfl)
  | (walk_at "gf"; walk_at "evs"; walk_at "call"; rfl; rfl; rfl))
set_option hygiene false in
local macro_rules | `(tactic| walk_at "evs") => `(tactic| first | exact da_nil | (apply da_cons; walk_at "ev"; walk_at "evs"; rfl))
set_option hygiene false in
local macro_rules | `(tactic| walk_at "et") => `(tactic| first
  | (apply dt_cmp cmp_eq; walk_at "ev"; walk_at "ev") | (apply dt_cmp cmp_ne; walk_at "ev"; walk_at "ev") | (apply dt_cmp cmp_lt; walk_at "ev"; walk_at "ev")
  | (apply dt_cmp cmp_le; walk_at "ev"; walk_at "ev") | (apply dt_cmp cmp_gt; walk_at "ev"; walk_at "ev")
  | (apply dt_eqP hu64; walk_at "ev"; walk_at "ev") | (apply dt_in hu1; walk_at "ev"; walk_at "ev"; rfl) | (apply dt_notin hu1; walk_at "ev"; walk_at "ev"; rfl)
  | (apply dt_not; walk_at "et")
  | (apply dt_w; walk_at "ew")
  | (apply dt_val; walk_at "ev"; (intro _); rfl))
set_option hygiene false in
local macro_rules | `(tactic| walk_at "ew") => `(tactic| first
  | (apply dw_and1; walk_at "et") | (apply dw_or1; walk_at "et")
  | (apply dw_and; walk_at "et"; (intro _); walk_at "ew")
  | (apply dw_or; walk_at "et"; (intro _); walk_at "ew"))
local macro_rules | `(tactic| walk_at "call") => `(tactic| (constructor <;> walk_at "side"))
theorem upsL_len (w d s x y : Int) : (upsL w d s x y).length ≤ 2 := by
  unfold upsL
  exact Nat.le_trans (List.length_filter_le _ _) (by rw [facingL_len]; exact Nat.le_refl _)
inductive RSome : List Dt → Mu → Dt → Mu → Prop
  | mk {B C : Addr} {bs : BagS} {w d s : Int} {there : List (Int × Int)} {n : Nat} (h : Small w d s) (hc : 0 < (cutsL w d s).length) (hn : n ≤ 100000) (hcl : closeF (fun p => upsL w d s p.1 p.2) n (picksF (cutsL w d s) bs).1 [] = some there) :
    RSome [.raw (.ref B), pl w d s] (bagM B C bs) (.lst (ptsD (sortP there))) (bagM B C (picksF (cutsL w d s) bs).2)
section
variable {P : Program} {w : World} {K : PySem.W.Frag} {mg : Str → Option Value} {base : Heap}
theorem sc_ok_closed : FnScope ["_law_plan_here", "_law_some_here", "_law_there", "_law_todo", "_law_at"] ["_law_plan_here", "_law_some_here"] (defScope sClosed) := ⟨rfl, rfl, rfl, by decide +kernel, rfl, by decide +kernel, by decide +kernel⟩
theorem ok_closed {f : Addr} {fd : FuncData} (F : Fun K "_law_closed" "_law_closed" sClosed f fd) (gU : Fn P w K mg base 4 "_law_ups" 2 (spD 2 RUps)) (m_len : mg "len" = Option.none) (m_list : mg "list" = Option.none) (m_sorted : mg "sorted" = Option.none) : FnOk P w K mg base CX0 5 f fd ["_law_plan_here", "_law_some_here"] (spD 2 RClosed) := by
  refine fn_okS F sc_ok_closed (by decide) fun X b ds r hl hR => ?_
  cases hR with | @mk w d s ps fin n h hn hlp hc => ?_
  have nm0 := b.nm 0 "_law_plan_here" rfl (.inl rfl) (by decide) (by decide)
  have nm1 := b.nm 1 "_law_some_here" rfl (.inl rfl) (by decide) (by decide)
  have nm2 := b.nm 2 "_law_there" rfl (.inl rfl) (by decide) (by decide)
  have nm3 := b.nm 3 "_law_todo" rfl (.inl rfl) (by decide) (by decide)
  have nm4 := b.nm 4 "_law_at" rfl (.inl rfl) (by decide) (by decide)
  have ls2 := b.ls 2 "_law_there" rfl (.inl rfl)
  have ls3 := b.ls 3 "_law_todo" rfl (.inl rfl)
  have ls4 := b.ls 4 "_law_at" rfl (.inl rfl)
  have gf0 := b.gf gU (by decide) rfl (by decide)
  have hcalm := b.calm
  have hr0 := b.room.un
  have hu1 : X.A.units + 1 < cLine := by omega
  have hu64 : X.A.units + 64 < cLine := by omega
  have hu65 : X.A.units + 65 < cLine := by omega
  have glen : Gl X "len" := b.gl rfl
  have mlen : X.mg "len" = Option.none := by rw [b.m_]; exact m_len
  have glist : Gl X "list" := b.gl rfl
  have mlist : X.mg "list" = Option.none := by rw [b.m_]; exact m_list
  have gsorted : Gl X "sorted" := b.gl rfl
  have msorted : X.mg "sorted" = Option.none := by rw [b.m_]; exact m_sorted
  conv in defBody _ => whnf
  have hw1 := h.w
  have hd1 := h.d
  have hs1 := sd_sm h.s
  have hs0 := h.s0.1
  have hsz : 400000 ≤ sizeLine := by decide
  refine sm_new 2 ls2 nw_dict rfl fun D1 => ?_
  refine sm_new 3 ls3 (nw_list (ds := ptsD ps) glist mlist ?_ rfl) rfl fun D2 => ?_
  · walk_at "ev"
  refine sm_whileI (fun n E M => ∃ todo there o4, E = [some (pl w d s), some (.lst (ptsD ps)), some (.raw (.ref D1)), some (.raw (.ref D2)), o4] ∧ M = [(D1, .dct there), (D2, .lst (ptsD todo))] ∧ closeF (fun p => upsL w d s p.1 p.2) n todo there = some fin ∧ todo.length + 2 * n ≤ 300000 ∧ there.length + n ≤ 300000)
    (fun E M => ∃ o4, E = [some (pl w d s), some (.lst (ptsD ps)), some (.raw (.ref D1)), some (.raw (.ref D2)), o4] ∧ M = [(D1, .dct fin), (D2, .lst [])]) n b.own ⟨ps, [], none, rfl, rfl, hc, by omega, by rw [List.length_nil]; omega⟩ (fun n E M hI => ?_) (fun E' M' hJ => ?_)
  · obtain ⟨todo, there, o4, rfl, rfl, hcl, hb1, hb2⟩ := hI
    cases n with
    | zero => cases hcl
    | succ n =>
      unfold closeF at hcl
      cases hr : todo.reverse with
      | nil =>
        rw [hr] at hcl
        have ht : todo = [] := List.reverse_eq_nil_iff.mp hr
        cases hcl
        refine .inl ⟨TM.is (tm_cmp cmp_gt (dm_len (m := 1) (D := D2) glen mlen (dm_ ?_) rfl rfl) (dm_ de_int)) ?_, o4, rfl, ?_⟩
        · walk_at "ev"
        · rw [ht]
          rfl
        · rw [ht]
          rfl
      | cons p rr =>
        rw [hr] at hcl
        have ht : todo = rr.reverse ++ [p] := by rw [← List.reverse_reverse todo, hr, List.reverse_cons]
        have hl1 : todo.length = rr.reverse.length + 1 := by rw [ht, List.length_append, List.length_singleton]
        have hpt : ptsD todo = ptsD rr.reverse ++ [pt p.1 p.2] := by rw [ht, ptsD, List.map_append]; rfl
        dsimp only at hcl
        by_cases hp : p ∈ there
        · rw [if_pos hp] at hcl
          refine .inr ⟨[some (pl w d s), some (.lst (ptsD ps)), some (.raw (.ref D1)), some (.raw (.ref D2)), some (pt p.1 p.2)], [(D1, .dct there), (D2, .lst (ptsD rr.reverse))], _, n, Nat.lt_succ_self n, ⟨rr.reverse, there, _, rfl, rfl, hcl, by omega, by omega⟩, TM.is (tm_cmp cmp_gt (dm_len (m := 1) (D := D2) glen mlen (dm_ ?_) rfl rfl) (dm_ de_int)) ?_, ?_⟩
          · walk_at "ev"
          · rw [List.length_map, hl1]
            exact decide_eq_true (by omega)
          rw [hpt]
          refine sm_cons (sm1_st 4 ls4 (dm_pop (m := 1) (D := D2) ?_ rfl rfl rfl) rfl) (sm_cons (sm1_ifF (TM.is (tm_notin (m := 0) (D := D1) (x := p.1) (y := p.2) hu1 ?_ ?_ rfl rfl) ?_) sm_nil) sm_nil)
          · walk_at "ev"
          · walk_at "ev"
          · walk_at "ev"
          · rw [decide_eq_true (show (p.1, p.2) ∈ there from hp)]
            rfl
        · rw [if_neg hp] at hcl
          have hul := upsL_len w d s p.1 p.2
          have hput : putP there (p.1, p.2) = there ++ [p] := if_neg hp
          refine .inr ⟨[some (pl w d s), some (.lst (ptsD ps)), some (.raw (.ref D1)), some (.raw (.ref D2)), some (pt p.1 p.2)], [(D1, .dct (there ++ [p])), (D2, .lst (ptsD (rr.reverse ++ upsL w d s p.1 p.2)))], _, n, Nat.lt_succ_self n, ⟨rr.reverse ++ upsL w d s p.1 p.2, there ++ [p], _, rfl, rfl, hcl, by rw [List.length_append]; omega, by rw [List.length_append, List.length_singleton]; omega⟩, TM.is (tm_cmp cmp_gt (dm_len (m := 1) (D := D2) glen mlen (dm_ ?_) rfl rfl) (dm_ de_int)) ?_, ?_⟩
          · walk_at "ev"
          · rw [List.length_map, hl1]
            exact decide_eq_true (by omega)
          rw [hpt]
          refine sm_cons (sm1_st 4 ls4 (dm_pop (m := 1) (D := D2) ?_ rfl rfl rfl) rfl) (sm_cons (sm1_ifT (TM.is (tm_notin (m := 0) (D := D1) (x := p.1) (y := p.2) hu1 ?_ ?_ rfl rfl) ?_) (sm_cons (sm1_putT (m := 0) (D := D1) (x := p.1) (y := p.2) hu1 de_bool ?_ ?_ rfl ?_ rfl) (sm_cons (sm1_expr (d := .non) (M1 := [(D1, .dct (there ++ [p])), (D2, .lst (ptsD (rr.reverse ++ upsL w d s p.1 p.2)))]) ?_ rfl) sm_nil))) sm_nil)
          · walk_at "ev"
          · walk_at "ev"
          · walk_at "ev"
          · rw [decide_eq_false (show ¬ (p.1, p.2) ∈ there from hp)]
            rfl
          · walk_at "ev"
          · walk_at "ev"
          · omega
          · rw [hput, show ptsD (rr.reverse ++ upsL w d s p.1 p.2) = ptsD rr.reverse ++ ptsD (upsL w d s p.1 p.2) from List.map_append]
            refine dm_extend (m := 1) (D := D2) (ds0 := ptsD rr.reverse) (ds := ptsD rr.reverse) (es := ptsD (upsL w d s p.1 p.2)) (M1 := [(D1, .dct (there ++ [p])), (D2, .lst (ptsD rr.reverse))]) ?_ rfl (dm_ ?_) rfl ?_ ⟨rfl, rfl, rfl, rfl⟩
            · walk_at "ev"
            · walk_at "ev"
            · rw [List.length_map, List.length_map]
              omega
  · obtain ⟨o4, rfl, rfl⟩ := hJ
    refine sm_freeze (M := [(D1, .dct fin)]) (D := D2) (cc := .lst []) 3 rfl ?_
    refine sm_freeze (M := []) (D := D1) (cc := .dct fin) 2 rfl ?_
    refine sm_rt (ss_last (s1_ret (de_sortT hcalm gsorted msorted ?_ rfl)))
    walk_at "ev"
theorem sc_some : FnScope ["_law_bag_here", "_law_plan_here"] ["_law_bag_here", "_law_plan_here"] (defScope sSome) := ⟨rfl, rfl, rfl, by decide +kernel, rfl, by decide +kernel, by decide +kernel⟩
theorem ok_some {f : Addr} {fd : FuncData} (F : Fun K "_law_some" "_law_some" sSome f fd) (gP : Fn P w K mg base 3 "_law_picks" 2 (spM 2 RPicks)) (gC : Fn P w K mg base 5 "_law_closed" 2 (spD 2 RClosed)) : FnOk P w K mg base CX0 6 f fd ["_law_bag_here", "_law_plan_here"] (spM 2 RSome) := by
  refine fn_okM F sc_some (by decide) fun X b ds M r M' hl hR => ?_
  cases hR with | @mk B C bs w d s there n h hc hn hcl => ?_
  have nm0 := b.nm 0 "_law_bag_here" rfl (.inl rfl) (by decide) (by decide)
  have nm1 := b.nm 1 "_law_plan_here" rfl (.inl rfl) (by decide) (by decide)
  have gf0 := b.gf gC (by decide) rfl (by decide)
  have hcalm := b.calm
  have hr0 := b.room.un
  have hu1 : X.A.units + 1 < cLine := by omega
  have hu64 : X.A.units + 64 < cLine := by omega
  have hu65 : X.A.units + 65 < cLine := by omega
  have gm0 := b.gm gP (by decide) rfl (by decide)
  have hlp := picksF_len (cutsL w d s) bs
  have hlc := cuts_len h
  conv in defBody _ => whnf
  refine sm_last (sm1_ret (dm_callD gf0 (am_cons (dm_ ?_) (am_cons (dm_call (Mr := []) gm0 (am_ ?_) (.mk h hc) rfl rfl rfl rfl) am_nil rfl) rfl) (.mk h hn (by omega) hcl) rfl rfl rfl))
  · walk_at "ev"
  · walk_at "evs"
theorem sc_mixed : FnScope ["_law_bag_here", "_law_row", "_law_found", "_law_left", "_law_k"] ["_law_bag_here", "_law_row"] (defScope sMixed) := ⟨rfl, rfl, rfl, by decide +kernel, rfl, by decide +kernel, by decide +kernel⟩
theorem ok_mixed {f : Addr} {fd : FuncData} (F : Fun K "_law_mixed" "_law_mixed" sMixed f fd) (gD : Fn P w K mg base 1 "_law_draw" 2 (spM 2 RDraw)) (m_len : mg "len" = Option.none) (m_list : mg "list" = Option.none) (m_range : mg "range" = Option.none) : FnOk P w K mg base CX0 2 f fd ["_law_bag_here", "_law_row"] (spM 2 RMixed) := by
  refine fn_okM F sc_mixed (by decide) fun X b ds M r M' hl hR => ?_
  cases hR with | @mk B C bs ps hlp => ?_
  have nm0 := b.nm 0 "_law_bag_here" rfl (.inl rfl) (by decide) (by decide)
  have nm1 := b.nm 1 "_law_row" rfl (.inl rfl) (by decide) (by decide)
  have nm2 := b.nm 2 "_law_found" rfl (.inl rfl) (by decide) (by decide)
  have nm3 := b.nm 3 "_law_left" rfl (.inl rfl) (by decide) (by decide)
  have nm4 := b.nm 4 "_law_k" rfl (.inl rfl) (by decide) (by decide)
  have ls2 := b.ls 2 "_law_found" rfl (.inl rfl)
  have ls3 := b.ls 3 "_law_left" rfl (.inl rfl)
  have ls4 := b.ls 4 "_law_k" rfl (.inl rfl)
  have hcalm := b.calm
  have hr0 := b.room.un
  have hu1 : X.A.units + 1 < cLine := by omega
  have hu64 : X.A.units + 64 < cLine := by omega
  have hu65 : X.A.units + 65 < cLine := by omega
  have glen : Gl X "len" := b.gl rfl
  have mlen : X.mg "len" = Option.none := by rw [b.m_]; exact m_len
  have glist : Gl X "list" := b.gl rfl
  have mlist : X.mg "list" = Option.none := by rw [b.m_]; exact m_list
  have grange : Gl X "range" := b.gl rfl
  have mrange : X.mg "range" = Option.none := by rw [b.m_]; exact m_range
  have gm0 := b.gm gD (by decide) rfl (by decide)
  conv in defBody _ => whnf
  have hsz : 400000 ≤ sizeLine := by decide
  refine sm_new 2 ls2 (nw_lst da_nil (Nat.zero_le _)) rfl fun D1 => ?_
  refine sm_new 3 ls3 (nw_list (ds := ptsD ps) glist mlist ?_ rfl) rfl fun D2 => ?_
  · walk_at "ev"
  have fin : ∃ q, mixF ps.length ps [] bs = q := ⟨_, rfl⟩
  obtain ⟨q, hq⟩ := fin
  rw [hq]
  refine sm_forN (fun n E M => ∃ left found bs o4, left.length = n ∧ E = [some (.raw (.ref B)), some (.lst (ptsD ps)), some (.raw (.ref D1)), some (.raw (.ref D2)), o4] ∧ M = bagM B C bs ++ [(D1, Dt.lst (ptsD found)), (D2, Dt.lst (ptsD left))] ∧ mixF n left found bs = q ∧ found.length + n ≤ 5000)
    b.own b.calm ls4 (id_range1 (n := ps.length) grange mrange (dm_ (DE.is (de_len (ds := ptsD ps) glen mlen ?_ rfl) ?_)) (by omega) rfl) (fun _ => rfl) ?_ (fun n dd E M hI => ?_) (fun E' M' hI => ?_)
  · walk_at "ev"
  · rw [List.length_map]
  · rw [ints_len]
    exact ⟨ps, [], bs, none, rfl, rfl, rfl, hq, by rw [List.length_nil]; omega⟩
  · obtain ⟨left, found, bs, o4, hll, rfl, rfl, hm, hb⟩ := hI
    have hcn : (0 : Int) < (left.length : Int) ∧ (left.length : Int) < 1073741824 := by omega
    have h2 := draw_lt bs hcn.1
    have hl2 : (drawR bs (left.length : Int)).toNat < left.length := by omega
    have hat : left[(drawR bs (left.length : Int)).toNat]? = some ((left[(drawR bs (left.length : Int)).toNat]?).getD (0, 0)) := by
      rw [List.getElem?_eq_getElem hl2]
      rfl
    unfold mixF at hm
    generalize hk : (drawR bs (left.length : Int)).toNat = kk at hm hl2 hat
    generalize hpp : (left[kk]?).getD (0, 0) = p at hm hat
    refine ⟨[some (.raw (.ref B)), some (.lst (ptsD ps)), some (.raw (.ref D1)), some (.raw (.ref D2)), some dd], bagM B C (drawS bs (left.length : Int)) ++ [(D1, Dt.lst (ptsD (found ++ [p]))), (D2, Dt.lst (ptsD (left.eraseIdx kk)))], ⟨left.eraseIdx kk, found ++ [p], _, _, by rw [List.length_eraseIdx, if_pos hl2]; omega, rfl, rfl, hm, by rw [List.length_append, List.length_singleton]; omega⟩, sm_cons (sm1_expr (d := .non) ?_ rfl) sm_nil⟩
    have he : ptsD (left.eraseIdx kk) = (ptsD left).eraseIdx kk := by
      simp only [ptsD, List.eraseIdx_eq_take_drop_succ, List.map_append, List.map_take, List.map_drop]
    have hf : ptsD (found ++ [p]) = ptsD found ++ [pt p.1 p.2] := by rw [ptsD, List.map_append]; rfl
    rw [he, hf]
    refine dm_append (m := 2) (D := D1) (ds0 := ptsD found) (ds := ptsD found) (d := pt p.1 p.2) (M1 := [(B, .lst [.raw (.ref C), .int ((drawS bs (left.length : Int)).at_ : Int), .int (drawS bs (left.length : Int)).st]), (C, .lst ((drawS bs (left.length : Int)).cells.map Dt.int)), (D1, Dt.lst (ptsD found)), (D2, Dt.lst ((ptsD left).eraseIdx kk))]) ?_ rfl ?_ rfl ?_ ⟨rfl, rfl, rfl, rfl⟩
    · walk_at "ev"
    · refine dm_popAt (m := 3) (n := kk) (D := D2) (ds0 := ptsD left) (ds := ptsD left) (M1 := bagM B C (drawS bs (left.length : Int)) ++ [(D1, Dt.lst (ptsD found)), (D2, Dt.lst (ptsD left))]) ?_ rfl ?_ rfl ?_ (by omega) ?_
      · walk_at "ev"
      · refine DM.is (d := .int (drawR bs (left.length : Int))) ?_ (by rw [← hk, Int.toNat_of_nonneg h2.1])
        refine dm_call (Mc := bagM B C bs) (Mc' := bagM B C (drawS bs (left.length : Int))) (Mr := [(D1, Dt.lst (ptsD found)), (D2, Dt.lst (ptsD left))]) (ds := [.raw (.ref B), .int (left.length : Int)]) gm0 ?_ (.mk hcn) rfl rfl rfl rfl
        refine am_cons (M1 := bagM B C bs ++ [(D1, Dt.lst (ptsD found)), (D2, Dt.lst (ptsD left))]) (dm_ ?_) (am_cons (M1 := bagM B C bs ++ [(D1, Dt.lst (ptsD found)), (D2, Dt.lst (ptsD left))]) (DM.is (d := .int ((ptsD left).length : Int)) ?_ (by rw [List.length_map])) am_nil rfl) rfl
        · walk_at "ev"
        · refine dm_len (m := 3) (D := D2) (ds := ptsD left) glen mlen (dm_ ?_) rfl rfl
          walk_at "ev"
      · rw [List.getElem?_map, hat]
        rfl
      · exact ⟨rfl, rfl, rfl, rfl⟩
    · rw [List.length_map]
      omega
  · obtain ⟨left, found, bs, o4, hll, rfl, rfl, hm, hb⟩ := hI
    have hm' : (found, bs) = q := hm
    rw [← hm']
    show SM X _ ((bagM B C bs ++ [(D1, Dt.lst (ptsD found))]) ++ [(D2, Dt.lst (ptsD left))]) _ _
    apply sm_freeze (M := bagM B C bs ++ [(D1, Dt.lst (ptsD found))]) (D := D2) (cc := Dt.lst (ptsD left)) 3
    · rfl
    apply sm_freeze (M := bagM B C bs) (D := D1) (cc := Dt.lst (ptsD found)) 2
    · rfl
    refine sm_rt (ss_last (s1_ret ?_))
    walk_at "ev"
end
end Br

-- BrL
namespace Br
open PySem L2 PySem.Spec PyProof.Rows
local macro_rules | `(tactic| walk_at "side") => `(tactic| first | assumption | omega | decide | (left; constructor <;> omega) | (right; constructor <;> omega) | (constructor <;> omega))
set_option hygiene false in
local macro_rules | `(tactic| walk_at "nm") => `(tactic| first
  | ((with_reducible apply de_at 0 nm0); rfl)
  | ((with_reducible apply de_at 1 nm1); rfl)
  | ((with_reducible apply de_at 2 nm2); rfl)
  | ((with_reducible apply de_at 3 nm3); rfl)
  | ((with_reducible apply de_at 4 nm4); rfl)
  | ((with_reducible apply de_at 5 nm5); rfl)
  | ((with_reducible apply de_at 6 nm6); rfl)
  | ((with_reducible apply de_at 7 nm7); rfl)
  | ((with_reducible apply de_at 8 nm8); rfl)
  | ((with_reducible apply de_at 9 nm9); rfl)
  | ((with_reducible apply de_at 10 nm10); rfl)
  | ((with_reducible apply de_at 11 nm11); rfl)
  | ((with_reducible apply de_at 12 nm12); rfl)
  | ((with_reducible apply de_at 13 nm13); rfl)
  | ((with_reducible apply de_at 14 nm14); rfl)
  | ((with_reducible apply de_at 15 nm15); rfl))
set_option hygiene false in
local macro_rules | `(tactic| walk_at "gf") => `(tactic| first | (with_reducible apply de_gf gf0) | (with_reducible apply de_gf gf1) | (with_reducible apply de_gf gf2) | (with_reducible apply de_gf gf3) | (with_reducible apply de_gf gf4) | (with_reducible apply de_gf gf5))
set_option hygiene false in
local macro_rules | `(tactic| walk_at "ev") => `(tactic| first
  | walk_at "nm" | exact de_int | exact de_bool | exact de_non
  | (apply de_add; walk_at "ev"; walk_at "ev") | (apply de_sub; walk_at "ev"; walk_at "ev")
  | (apply de_mul; walk_at "ev"; walk_at "ev"; walk_at "side")
  | (apply de_mod; walk_at "ev"; walk_at "ev"; walk_at "side")
  | (apply de_fdiv; walk_at "ev"; walk_at "ev"; walk_at "side")
  | (apply de_ixT0; walk_at "ev"; rfl)
  | (apply de_ixL0; walk_at "ev"; rfl)
  | (apply de_cmp cmp_eq; walk_at "ev"; walk_at "ev") | (apply de_cmp cmp_ne; walk_at "ev"; walk_at "ev") | (apply de_cmp cmp_lt; walk_at "ev"; walk_at "ev")
  | (apply de_cmp cmp_le; walk_at "ev"; walk_at "ev") | (apply de_cmp cmp_gt; walk_at "ev"; walk_at "ev")
  | (apply de_chain cmp_le cmp_le (by with_unfolding_all rfl); walk_at "ev"; walk_at "ev"; walk_at "ev")
  | (apply de_one; walk_at "ev")
  | (apply de_and; walk_at "ev"; (intro _); walk_at "ev")
  | (apply de_or; walk_at "ev"; (intro _); walk_at "ev")
  | (apply de_not; walk_at "ev")
  | (apply de_tup; walk_at "evs"; exact len_ok rfl)
  | (apply de_lst; walk_at "evs"; exact len_ok rfl)
  | (apply de_min2 hcalm gmin mmin; walk_at "ev"; walk_at "ev"; rfl; rfl) | (apply de_max2 hcalm gmax mmax; walk_at "ev"; walk_at "ev"; rfl; rfl)
  | (walk_at "gf"; walk_at "evs"; walk_at "call"; rfl; rfl; rfl))
set_option hygiene false in
local macro_rules | `(tactic| walk_at "evs") => `(tactic| first | exact da_nil | (apply da_cons; walk_at "ev"; walk_at "evs"; rfl))
set_option hygiene false in
local macro_rules | `(tactic| walk_at "et") => `(tactic| first
  | (apply dt_cmp cmp_eq; walk_at "ev"; walk_at "ev") | (apply dt_cmp cmp_ne; walk_at "ev"; walk_at "ev") | (apply dt_cmp cmp_lt; walk_at "ev"; walk_at "ev")
  | (apply dt_cmp cmp_le; walk_at "ev"; walk_at "ev") | (apply dt_cmp cmp_gt; walk_at "ev"; walk_at "ev")
  | (apply dt_eqP hu64; walk_at "ev"; walk_at "ev") | (apply dt_in hu1; walk_at "ev"; walk_at "ev"; rfl) | (apply dt_notin hu1; walk_at "ev"; walk_at "ev"; rfl)
  | (apply dt_not; walk_at "et")
  | (apply dt_w; walk_at "ew")
  | (apply dt_val; walk_at "ev"; (intro _); rfl))
set_option hygiene false in
local macro_rules | `(tactic| walk_at "ew") => `(tactic| first
  | (apply dw_and1; walk_at "et") | (apply dw_or1; walk_at "et")
  | (apply dw_and; walk_at "et"; (intro _); walk_at "ew")
  | (apply dw_or; walk_at "et"; (intro _); walk_at "ew"))
local macro_rules | `(tactic| walk_at "call") => `(tactic| (constructor <;> walk_at "side"))
/-- name = [elt for x in iter if ..] on one line -/
theorem s1_setLcL {X : Cx} {E : En} {elt iter : Expr} {ifs : List Expr} {scope : Scope} {pos p py spos : Pos} {x y : Str} {i j : Nat} {ds : List Dt} {f : Dt → Bool} {g : Dt → Dt} (hc : X.calm = true) (hN : X.N.Nodup) (hy : X.N[j]? = some y) (hyl : X.env.scope.names.lookup y = some .local)
    (hsw : swapsWith (.ListComp elt [⟨.Name x p, iter, ifs, 0⟩] scope pos) (some (.Name y py)) spos.line X.env = pure true) (ok : BlkOk X.N X.env.scope scope [(x, i)])
    (hg : ∀ (s : Shared) (H : Hp) (C : Addr) (cl : List (Str × Addr)) (fp : List Addr), PG (X.blk s H scope (compEnvC scope cl C X.env) fp) (.Name x p) (gName i))
    (hl : ifs.length ≤ 1) (hs : ∀ x, foldedSetIterable iter X.env x = pure x) (ha : DE X E iter (.lst ds)) (hz : ds.length < sizeLine)
    (hi : ∀ d, d ∈ ds → Ifs (Blk X scope) ((wipeE E [i]).set i (some d)) ifs (f d) ∧ (f d = true → ∀ c, Blk X scope c → DE c ((wipeE E [i]).set i (some d)) elt (g d))) :
    S1 X E (.Assign [.Name y py] (.ListComp elt [⟨.Name x p, iter, ifs, 0⟩] scope pos) spos) (.nx (E.set j (some (.lst ((ds.filter f).map g))))) := by
  obtain ⟨_, p1, r1⟩ := ha
  refine ⟨_, ps_setLc (own := [(x, i)]) (tt := sTs (Blk X scope) ifs) (te := sE (Blk X scope) elt) hc hN hy hyl hsw (pi_list p1) ok hg (fun s H C cl fp => pts_sTs hl ⟨s, H, C, cl, fp, rfl⟩) (fun s H C cl fp => pe_sE ⟨s, H, C, cl, fp, rfl⟩) hs, fun Hf σ H D' s e k => ?_⟩
  refine r1 Hf σ H s e _ fun v Hf1 H1 f1 rv => ?_
  cases rv with
  | @lst a xs _ hx rx =>
    refine ⟨a, rfl, ⟨xs, SqL.of (f1.s _ _ hx)⟩, fun D hD => lc_list (xs := xs) (PvLc f g ds D Hf1 H1) ⟨Hf1, [], FrD.new f1.s hD _, upd_same, by simpa using Reps.nil⟩ (fun k H' _ ⟨_, _, fd, _⟩ => SqL.of (fd.h _ _ (f1.s _ _ hx))) (fun k v H' hv hp => ?_) (fun H' hp => ?_)⟩
    · obtain ⟨d, hd, rd⟩ := rx.getV hv
      exact lc_step hz hd rd (e.mono f1.f) hi hp
    · rw [rx.length] at hp
      refine lc_end (Q := fun v H1 => D'.nx (σ.set j (some v)) H1) (fun v Hf' H' f' r' => ?_) hp
      exact k _ Hf' H' (f1.trans f') ((e.mono (f1.trans f').f).set j r')
def spBag (K : PySem.W.Frag) : Sp := fun vs H Q _ => ∃ (a : Addr) (ns : List Int), vs = [V.ref a] ∧ SqL K H a (ns.map V.int) ∧ ∀ (B C : Addr) (cells : List Int) (H' : Hp), Same H H' → H B = Option.none → H C = Option.none → B ≠ C → H' B = some (.lst [.ref C, .int 0, .int 7]) → H' C = some (.lst (cells.map V.int)) → Q (.ref B) H'
theorem cut_ints (ns : List Int) (lo hi : Option Int) : ∃ cells : List Int, cutV (ns.map V.int) lo hi = cells.map V.int := by
  unfold cutV
  exact ⟨_, by rw [← List.map_drop, ← List.map_take]⟩
section
variable {P : Program} {w : World} {K : PySem.W.Frag} {mg : Str → Option Value} {base : Heap}
theorem sc_bag : FnScope ["_law_script"] ["_law_script"] (defScope sBag) := ⟨rfl, rfl, rfl, by decide +kernel, rfl, by decide +kernel, by decide +kernel⟩
theorem ok_bag {f : Addr} {fd : FuncData} (F : Fun K "_law_bag" "_law_bag" sBag f fd) (m_list : mg "list" = Option.none) : FnOk P w K mg base CX0 1 f fd ["_law_script"] (spBag K) := by
  refine F.ok sc_bag (fun vs H Q E h => ?_) (fun cdv A outer s H vs Q E hr h => ?_)
  · obtain ⟨a, ns, rfl, _⟩ := h
    rfl
  · obtain ⟨a, ns, rfl, hS, k⟩ := h
    refine ⟨_, pss_one (ps_ret (pe_lst (pa_cons (pe_callTy call_list_of rfl m_list boot_list_ (pa_cons (pe_slice sl_list (pe_var (i := 0) rfl (.inl rfl)) po_none (po_some pe_int)) pa_nil)) (pa_cons pe_int (pa_cons pe_int pa_nil))))), ?_⟩
    obtain ⟨cells, hc⟩ := cut_ints ns none (some 63)
    refine ⟨_, rfl, 63, rfl, a, _, rfl, hS, fun p0 hp0 => ?_⟩
    rw [hc]
    refine ⟨p0, cells.map V.int, rfl, .inl (SqL.of upd_same), fun C hC => ?_⟩
    refine ⟨by show 3 ≤ sizeLine; decide, fun B hB => ?_⟩
    have h1 : Same H (upd H p0 (.lst (cells.map V.int))) := same_new hp0 _
    have h2 := h1.trans (same_new hC (.lst (cells.map V.int)))
    have hCB : C ≠ B := fun z => by subst z; rw [upd_same] at hB; cases hB
    refine k B C cells _ (h2.trans (same_new hB _)) (h2.free hB) (h1.free hC) (fun z => hCB z.symm) upd_same ?_
    rw [upd_ne hCB, upd_same]
end
end Br

-- BrM
namespace Br
open PySem L2 PySem.Spec PyProof.Rows
local macro_rules | `(tactic| walk_at "side") => `(tactic| first | assumption | omega | decide | (left; constructor <;> omega) | (right; constructor <;> omega) | (constructor <;> omega))
set_option hygiene false in
local macro_rules | `(tactic| walk_at "nm") => `(tactic| first
  | ((with_reducible apply de_at 0 nm0); rfl)
  | ((with_reducible apply de_at 1 nm1); rfl)
  | ((with_reducible apply de_at 2 nm2); rfl)
  | ((with_reducible apply de_at 3 nm3); rfl)
  | ((with_reducible apply de_at 4 nm4); rfl)
  | ((with_reducible apply de_at 5 nm5); rfl)
  | ((with_reducible apply de_at 6 nm6); rfl)
  | ((with_reducible apply de_at 7 nm7); rfl)
  | ((with_reducible apply de_at 8 nm8); rfl)
  | ((with_reducible apply de_at 9 nm9); rfl)
  | ((with_reducible apply de_at 10 nm10); rfl)
  | ((with_reducible apply de_at 11 nm11); rfl)
  | ((with_reducible apply de_at 12 nm12); rfl)
  | ((with_reducible apply de_at 13 nm13); rfl)
  | ((with_reducible apply de_at 14 nm14); rfl)
  | ((with_reducible apply de_at 15 nm15); rfl))
set_option hygiene false in
local macro_rules | `(tactic| walk_at "gf") => `(tactic| first | (with_reducible apply de_gf gf0) | (with_reducible apply de_gf gf1) | (with_reducible apply de_gf gf2) | (with_reducible apply de_gf gf3) | (with_reducible apply de_gf gf4) | (with_reducible apply de_gf gf5))
set_option hygiene false in
local macro_rules | `(tactic| walk_at "ev") => `(tactic| first
  | walk_at "nm" | exact de_int | exact de_bool | exact de_non
  | (apply de_add; walk_at "ev"; walk_at "ev") | (apply de_sub; walk_at "ev"; walk_at "ev")
  | (apply de_mul; walk_at "ev"; walk_at "ev"; walk_at "side")
  | (apply de_mod; walk_at "ev"; walk_at "ev"; walk_at "side")
  | (apply de_fdiv; walk_at "ev"; walk_at "ev"; walk_at "side")
  | (apply de_ixT0; walk_at "ev"; rfl)
  | (apply de_ixL0; walk_at "ev"; rfl)
  | (apply de_cmp cmp_eq; walk_at "ev"; walk_at "ev") | (apply de_cmp cmp_ne; walk_at "ev"; walk_at "ev") | (apply de_cmp cmp_lt; walk_at "ev"; walk_at "ev")
  | (apply de_cmp cmp_le; walk_at "ev"; walk_at "ev") | (apply de_cmp cmp_gt; walk_at "ev"; walk_at "ev")
  | (apply de_chain cmp_le cmp_le (by with_unfolding_all rfl); walk_at "ev"; walk_at "ev"; walk_at "ev")
  | (apply de_one; walk_at "ev")
  | (apply de_and; walk_at "ev"; (intro _); walk_at "ev")
  | (apply de_or; walk_at "ev"; (intro _); walk_at "ev")
  | (apply de_not; walk_at "ev")
  | (apply de_tup; walk_at "evs"; exact len_ok rfl)
  | (apply de_lst; walk_at "evs"; exact len_ok rfl)
  | (apply de_min2 hcalm gmin mmin; walk_at "ev"; walk_at "ev"; rfl; rfl) | (apply de_max2 hcalm gmax mmax; walk_at "ev"; walk_at "ev"; rfl; rfl)
  | (walk_at "gf"; walk_at "evs"; walk_at "call"; rfl; rfl; rfl))
set_option hygiene false in
local macro_rules | `(tactic| walk_at "evs") => `(tactic| first | exact da_nil | (apply da_cons; walk_at "ev"; walk_at "evs"; rfl))
set_option hygiene false in
local macro_rules | `(tactic| walk_at "et") => `(tactic| first
  | (apply dt_cmp cmp_eq; walk_at "ev"; walk_at "ev") | (apply dt_cmp cmp_ne; walk_at "ev"; walk_at "ev") | (apply dt_cmp cmp_lt; walk_at "ev"; walk_at "ev")
  | (apply dt_cmp cmp_le; walk_at "ev"; walk_at "ev") | (apply dt_cmp cmp_gt; walk_at "ev"; walk_at "ev")
  | (apply dt_eqP hu64; walk_at "ev"; walk_at "ev") | (apply dt_in hu1; walk_at "ev"; walk_at "ev"; rfl) | (apply dt_notin hu1; walk_at "ev"; walk_at "ev"; rfl)
  | (apply dt_not; walk_at "et")
  | (apply dt_w; walk_at "ew")
  | (apply dt_val; walk_at "ev"; (intro _); rfl))
set_option hygiene false in
local macro_rules | `(tactic| walk_at "ew") => `(tactic| first
  | (apply dw_and1; walk_at "et") | (apply dw_or1; walk_at "et")
  | (apply dw_and; walk_at "et"; (intro _); walk_at "ew")
  | (apply dw_or; walk_at "et"; (intro _); walk_at "ew"))
local macro_rules | `(tactic| walk_at "call") => `(tactic| (constructor <;> walk_at "side"))
section
variable {X : Cx} {E : En} {M M1 : Mu} {pos p' : Pos} {x : Str} {i : Nat} {iter c : Expr} {body rest : List Stmt} {o : OM}
theorem forM_rem {I : List Dt → En → Mu → Prop} : ∀ {ds : List Dt}, (∀ d ds E M, I (d :: ds) E M → ∃ E' M', I ds E' M' ∧ SM X (E.set i (some d)) M body (.nx E' M')) → ∀ {E : En} {M : Mu}, I ds E M → ∃ E' M', I [] E' M' ∧ ForM X i body ds E M (.nx E' M')
  | [], _, E, M, h => ⟨E, M, h, .nil⟩
  | d :: ds, hs, E, M, h => by
    obtain ⟨E1, M1, h1, s1⟩ := hs d ds E M h
    obtain ⟨E2, M2, h2, s2⟩ := forM_rem hs h1
    exact ⟨E2, M2, h2, .next s1 s2⟩
theorem sm_forL {ds : List Dt} (I : List Dt → En → Mu → Prop) (hp : PassesOwn (model X.prog X.w) X.A X.env X.xe) (hc : X.calm = true) (L : Ls X i x) (hi : IDM X E M (.Name x p') iter ds M1) (hs : ∀ x, foldedSetIterable iter X.env x = pure x) (h0 : I ds E M1)
    (h : ∀ d ds E M, I (d :: ds) E M → ∃ E' M', I ds E' M' ∧ SM X (E.set i (some d)) M body (.nx E' M')) (hr : ∀ E' M', I [] E' M' → SM X E' M' rest o) : SM X E M (.For (.Name x p') iter body [] pos :: rest) o := by
  obtain ⟨E', M', hI, fo⟩ := forM_rem h h0
  exact sm_cons (sm1_for hp hc L hi fo hs) (hr E' M' hI)
end
/-- a suite that ends in a return, whatever the heap is then -/
def FinS (X : Cx) (E : En) (M : Mu) (sts : List Stmt) (d : Dt) : Prop := ∀ (Hf : Hp) (σ : L2.St) (H : Hp) (D : Ends), Same Hf H → EnvR Hf σ E → MuR Hf H M → (∀ v Hf' H', Rep Hf' v d → D.rt v H') → uS X sts D σ H
section
variable {X : Cx} {E E' : En} {M M1 M' : Mu} {pos p' : Pos} {x : Str} {iter e : Expr} {st : Stmt} {body rest sts : List Stmt} {d : Dt}
theorem fs_cons (h1 : S1M X E M st (.nx E' M1)) (h2 : FinS X E' M1 rest d) : FinS X E M (st :: rest) d := fun Hf σ H D s e m k => ⟨_, pss_cons ps_u pss_u, h1.r Hf σ H _ s e m fun σ' Hf' H' f e' m' => h2 Hf' σ' H' D f.s e' m' k⟩
theorem fs_of (h : SM X E M sts (.rt d M')) : FinS X E M sts d := fun Hf σ H D s e m k => h.r Hf σ H D s e m fun v Hf' H' _ _ r => k v Hf' H' r
theorem fs_new {cc : Dt} (i : Nat) (L : Ls X i x) (h : NW X E M e cc) (hs : swapsWith e (some (.Name x p')) pos.line X.env = pure false) (r : ∀ D, FinS X (E.set i (some (.raw (.ref D)))) (M ++ [(D, cc)]) rest d) : FinS X E M (.Assign [.Name x p'] e pos :: rest) d := fun Hf σ H D' s q m k => ⟨_, pss_cons (ps_set L.nd L.n L.l pe_u hs L.f) pss_u, by
  refine h Hf σ H s q m _ fun D Hf1 H1 f1 m1 hD => ?_
  exact r D Hf1 _ H1 D' f1.s ((q.mono f1.f).set i (.raw _)) m1 k⟩
theorem fs_freeze {D : Addr} {cc : Dt} (i : Nat) (hE : E[i]? = some (some (.raw (.ref D)))) (r : FinS X (E.set i (some cc)) M sts d) : FinS X E (M ++ [(D, cc)]) sts d := fun Hf σ H D' s q m k => by
  obtain ⟨Hf1, rr, g1, g2, m1, g3⟩ := m.adopt s
  have q1 : EnvR Hf1 σ (E.set i (some cc)) := by
    have q0 := (q.mono g1).set i rr
    obtain ⟨v, h1, h2⟩ := q.at_ i _ hE
    cases h2
    have e : σ.set i (some (.ref D)) = σ := set_same h1
    rw [e] at q0
    exact q0
  exact r Hf1 σ H D' g2 q1 m1 k
theorem fs_forL {i : Nat} {ds : List Dt} (I : List Dt → En → Mu → Prop) (hp : PassesOwn (model X.prog X.w) X.A X.env X.xe) (hc : X.calm = true) (L : Ls X i x) (hi : IDM X E M (.Name x p') iter ds M1) (hs : ∀ x, foldedSetIterable iter X.env x = pure x) (h0 : I ds E M1)
    (h : ∀ d ds E M, I (d :: ds) E M → ∃ E' M', I ds E' M' ∧ SM X (E.set i (some d)) M body (.nx E' M')) (hr : ∀ E' M', I [] E' M' → FinS X E' M' rest d) : FinS X E M (.For (.Name x p') iter body [] pos :: rest) d := by
  obtain ⟨E', M', hI, fo⟩ := forM_rem h h0
  exact fs_cons (sm1_for hp hc L hi fo hs) (hr E' M' hI)
end
def absI (i : Int) : Int := if i < 0 then -i else i
abbrev crsT (t : T6) : Int := crs t.a t.b t.c t.d t.e t.f
def spotsT (ks : List (Int × Int)) (t : T6) : List (Int × Int) := putP (putP (putP ks (t.a, t.b)) (t.c, t.d)) (t.e, t.f)
def spotsF (ts : List T6) (ks : List (Int × Int)) : List (Int × Int) := ts.foldl spotsT ks
def areaF (ts : List T6) (z : Int) : Int := ts.foldl (fun z t => z + absI (crsT t)) z
def insT (x y : Int) (t : T6) : Bool := decide (0 < mn3 ((wts t.a t.b t.c t.d t.e t.f x y 4).getD 0 0) ((wts t.a t.b t.c t.d t.e t.f x y 4).getD 1 0) ((wts t.a t.b t.c t.d t.e t.f x y 4).getD 2 0))
structure CoT (t : T6) : Prop where
  a : 0 ≤ t.a ∧ t.a ≤ 8
  b : 0 ≤ t.b ∧ t.b ≤ 8
  c : 0 ≤ t.c ∧ t.c ≤ 8
  d : 0 ≤ t.d ∧ t.d ≤ 8
  e : 0 ≤ t.e ∧ t.e ≤ 8
  f : 0 ≤ t.f ∧ t.f ≤ 8
structure CleanT (ks : List (Int × Int)) (t : T6) : Prop where
  ab : ∀ q ∈ ks, btw t.a t.b t.c t.d q.1 q.2 = false
  bc : ∀ q ∈ ks, btw t.c t.d t.e t.f q.1 q.2 = false
  ca : ∀ q ∈ ks, btw t.e t.f t.a t.b q.1 q.2 = false
structure Plain (p : PL) (S : List (Int × Int)) (ts : List T6) : Prop where
  co : ∀ t ∈ ts, CoT t
  nz : ∀ t ∈ ts, crsT t ≠ 0
  cl : ∀ t ∈ ts, CleanT (spotsF ts []) t
  ar : areaF ts 0 = 2 * p.w * p.d * p.s * p.s
  pt : ∀ i j : Int, 0 ≤ i → i < p.w * p.s → 0 ≤ j → j < p.d * p.s → (ts.filter (insT (4 * i + 1) (4 * j + 2))).length = 1
  sp : sortP (spotsF ts []) = (placesL p.w p.d p.s).filter fun q => onC p.s q.1 q.2 || decide (q ∈ sortP S)
structure GoodS (p : PL) (S : List (Int × Int)) : Prop where
  nd : S.Nodup
  cut : ∀ q ∈ S, q ∈ cutsL p.w p.d p.s
  cl : ∀ q ∈ S, ∀ u ∈ upsL p.w p.d p.s q.1 q.2, u ∈ S
structure PlainLaw (p : PL) : Prop where
  ne : 0 < (cutsL p.w p.d p.s).length
  cuts : ∀ q ∈ cutsL p.w p.d p.s, inB p.w p.d p.s q.1 q.2 = true ∧ onC p.s q.1 q.2 = false
  pars : ∀ q ∈ cutsL p.w p.d p.s, ∀ u ∈ parsE p.w p.d p.s q.1 q.2, u ∈ upsL p.w p.d p.s q.1 q.2
  deep : ∀ t ∈ rootsF p.w p.d p.s, deepT 7 t = true
  clo : ∀ S0 : List (Int × Int), (∀ q ∈ S0, q ∈ cutsL p.w p.d p.s) → S0.length ≤ 5000 → ∃ n S, n ≤ 100000 ∧ closeF (fun q => upsL p.w p.d p.s q.1 q.2) n S0 [] = some S ∧ S.length ≤ 5000 ∧ GoodS p S
  tri : ∀ S ps : List (Int × Int), GoodS p S → ps.Perm S → Plain p S (leavesF p.w p.d p.s (keysF ps))
theorem putP_len (ks : List (Int × Int)) (q : Int × Int) : (putP ks q).length ≤ ks.length + 1 := by
  unfold putP
  split
  · omega
  · rw [List.length_append, List.length_singleton]; omega
theorem spotsT_len (ks : List (Int × Int)) (t : T6) : (spotsT ks t).length ≤ ks.length + 3 := by
  have h1 := putP_len (putP (putP ks (t.a, t.b)) (t.c, t.d)) (t.e, t.f)
  have h2 := putP_len (putP ks (t.a, t.b)) (t.c, t.d)
  have h3 := putP_len ks (t.a, t.b)
  unfold spotsT
  omega
theorem leaves_len {w d s : Int} (h : Small w d s) (ks : List (Int × Int)) : (leavesF w d s ks).length ≤ 16384 := by
  refine Nat.le_trans (flat_len _ 128 _ fun t _ => spr_len ks 7 t) ?_
  exact Nat.le_trans (Nat.mul_le_mul_right 128 (roots_len h)) (by decide)
theorem filt_tr (h : T6 → Bool) : ∀ ts : List T6, ((ts.map trD).filter (fun dt => match dt with | .tup [.int a, .int b, .int c, .int d, .int e, .int f] => h ⟨a, b, c, d, e, f⟩ | _ => false)).map id = (ts.filter h).map trD
  | [] => rfl
  | t :: ts => by
    rw [List.map_cons, List.filter_cons, List.filter_cons]
    show (if h t = true then _ else _ : List Dt).map id = _
    cases h t with
    | true => rw [if_pos rfl, if_pos rfl, List.map_cons, filt_tr h ts]; rfl
    | false => rw [if_neg Bool.false_ne_true, if_neg Bool.false_ne_true, filt_tr h ts]
def spLaw (K : PySem.W.Frag) : Sp := fun vs H Q _ => ∃ (a : Addr) (ns : List Int), vs = [V.ref a] ∧ SqL K H a (ns.map V.int) ∧ ∀ H', Q (.bl true) H'
theorem reps_ints {Hf : Hp} : ∀ ns : List Int, Reps Hf (ns.map V.int) (ns.map Dt.int)
  | [] => .nil
  | n :: ns => .cons (.int n) (reps_ints ns)
abbrev lawE (sc bg pn sm me sp ar gd sh oa ob oc tt ox oy mn du : Option Dt) : En := [sc, bg, pn, sm, me, sp, ar, gd, sh, oa, ob, oc, tt, ox, oy, mn, du]
section
variable {P : Program} {w : World} {K : PySem.W.Frag} {mg : Str → Option Value} {base : Heap}
theorem sc_law : FnScope ["_law_script", "_law_bag_here", "_law_plan_here", "_law_some_here", "_law_mesh", "_law_spots", "_law_area", "_law_good", "_law_shape", "_law_a", "_law_b", "_law_c", "_law_at", "_law_x", "_law_y", "_law_many", "_law_due"] ["_law_script"] (defScope sLaw) := ⟨rfl, rfl, rfl, by decide +kernel, rfl, by decide +kernel, by decide +kernel⟩
theorem ok_law {f C fI fT : Addr} {fd fdI fdT : FuncData} (F : Fun K "law" "law" sLaw f fd) (math : ∀ p ∈ menuL, PlainLaw p) (cl : ClF K C) (MK : Mk K C fI) (GI : FnOk P w K mg base CX0 12 fI fdI ["self", "plan", "cuts"] (spM 3 (RInit C))) (bI : Binds K fdI ["self", "plan", "cuts"] []) (mC : mg "Mesh" = some (.ref C))
    (mT : Meth K C "triangles" fT) (GT : FnOk P w K mg base CX0 1 fT fdT ["self"] (spD 1 (RTri C))) (bT : Binds K fdT ["self"] [])
    (gBag : Fn P w K mg base 1 "_law_bag" 1 (spBag K)) (gPlan : Fn P w K mg base 2 "_law_plan" 1 (spM 1 RPlan)) (gSome : Fn P w K mg base 6 "_law_some" 2 (spM 2 RSome)) (gMix : Fn P w K mg base 2 "_law_mixed" 2 (spM 2 RMixed)) (gCo : Fn P w K mg base 1 "_law_corners_of" 1 (spD 1 RCorners)) (gX : Fn P w K mg base 1 "_law_cross" 3 (spD 3 RCross)) (gSd : Fn P w K mg base 3 "_law_side_clean" 3 (spD 3 RSide)) (gDr : Fn P w K mg base 1 "_law_draw" 2 (spM 2 RDraw)) (gWe : Fn P w K mg base 2 "_law_weigh" 4 (spD 4 RWeigh)) (gPl : Fn P w K mg base 1 "_law_places" 1 (spD 1 RPlaces)) (gOn : Fn P w K mg base 1 "_law_corner" 2 (spD 2 ROnC))
    (m_abs : mg "abs" = Option.none) (m_len : mg "len" = Option.none) (m_min : mg "min" = Option.none) (m_sorted : mg "sorted" = Option.none) : FnOk P w K mg base CX0 20 f fd ["_law_script"] (spLaw K) := by
  refine F.ok sc_law (fun vs H Q E h => ?_) (fun cdv A outer s H vs Q E hr h => ?_)
  · obtain ⟨a, ns, rfl, _⟩ := h
    rfl
  obtain ⟨a0, ns, rfl, hS, hQ⟩ := h
  have b : Bx P w K mg base _ sLaw 19 (bx P w K mg base _ "law" sLaw f cdv A outer s H E) := ⟨⟨_, _, _, _, _, _, _, _, rfl⟩, sc_law.nd, hr⟩
  refine ⟨_, pss_u, ?_⟩
  generalize hX : (bx P w K mg base _ "law" sLaw f cdv A outer s H E) = X at b
  have hX' : (cxOf CX0 P w K mg base ["_law_script", "_law_bag_here", "_law_plan_here", "_law_some_here", "_law_mesh", "_law_spots", "_law_area", "_law_good", "_law_shape", "_law_a", "_law_b", "_law_c", "_law_at", "_law_x", "_law_y", "_law_many", "_law_due"] "law" (defScope sLaw) f cdv A outer s H E).nox = X := hX
  rw [hX']
  have nm0 := b.nm 0 "_law_script" rfl (.inl rfl) (by decide) (by decide)
  have nm1 := b.nm 1 "_law_bag_here" rfl (.inl rfl) (by decide) (by decide)
  have nm2 := b.nm 2 "_law_plan_here" rfl (.inr (.inl rfl)) (by decide) (by decide)
  have nm3 := b.nm 3 "_law_some_here" rfl (.inr (.inl rfl)) (by decide) (by decide)
  have nm4 := b.nm 4 "_law_mesh" rfl (.inl rfl) (by decide) (by decide)
  have nm5 := b.nm 5 "_law_spots" rfl (.inl rfl) (by decide) (by decide)
  have nm6 := b.nm 6 "_law_area" rfl (.inl rfl) (by decide) (by decide)
  have nm7 := b.nm 7 "_law_good" rfl (.inl rfl) (by decide) (by decide)
  have nm8 := b.nm 8 "_law_shape" rfl (.inl rfl) (by decide) (by decide)
  have nm9 := b.nm 9 "_law_a" rfl (.inl rfl) (by decide) (by decide)
  have nm10 := b.nm 10 "_law_b" rfl (.inl rfl) (by decide) (by decide)
  have nm11 := b.nm 11 "_law_c" rfl (.inl rfl) (by decide) (by decide)
  have nm12 := b.nm 12 "_law_at" rfl (.inl rfl) (by decide) (by decide)
  have nm13 := b.nm 13 "_law_x" rfl (.inr (.inl rfl)) (by decide) (by decide)
  have nm14 := b.nm 14 "_law_y" rfl (.inr (.inl rfl)) (by decide) (by decide)
  have nm15 := b.nm 15 "_law_many" rfl (.inl rfl) (by decide) (by decide)
  have nm16 := b.nm 16 "_law_due" rfl (.inl rfl) (by decide) (by decide)
  have ls1 := b.ls 1 "_law_bag_here" rfl (.inl rfl)
  have ls2 := b.ls 2 "_law_plan_here" rfl (.inr rfl)
  have ls3 := b.ls 3 "_law_some_here" rfl (.inr rfl)
  have ls4 := b.ls 4 "_law_mesh" rfl (.inl rfl)
  have ls5 := b.ls 5 "_law_spots" rfl (.inl rfl)
  have ls6 := b.ls 6 "_law_area" rfl (.inl rfl)
  have ls7 := b.ls 7 "_law_good" rfl (.inl rfl)
  have ls8 := b.ls 8 "_law_shape" rfl (.inl rfl)
  have ls9 := b.ls 9 "_law_a" rfl (.inl rfl)
  have ls10 := b.ls 10 "_law_b" rfl (.inl rfl)
  have ls11 := b.ls 11 "_law_c" rfl (.inl rfl)
  have ls12 := b.ls 12 "_law_at" rfl (.inl rfl)
  have ls13 := b.ls 13 "_law_x" rfl (.inr rfl)
  have ls14 := b.ls 14 "_law_y" rfl (.inr rfl)
  have ls15 := b.ls 15 "_law_many" rfl (.inl rfl)
  have ls16 := b.ls 16 "_law_due" rfl (.inl rfl)
  have hcalm := b.calm
  have hr0 := b.room.un
  have hu1 : X.A.units + 1 < cLine := by omega
  have hu64 : X.A.units + 64 < cLine := by omega
  have hu65 : X.A.units + 65 < cLine := by omega
  have gabs : Gl X "abs" := b.gl rfl
  have mabs : X.mg "abs" = Option.none := by rw [b.m_]; exact m_abs
  have glen : Gl X "len" := b.gl rfl
  have mlen : X.mg "len" = Option.none := by rw [b.m_]; exact m_len
  have gsorted : Gl X "sorted" := b.gl rfl
  have msorted : X.mg "sorted" = Option.none := by rw [b.m_]; exact m_sorted
  have gf0 := b.gf gCo (by decide) rfl (by decide)
  have gf1 := b.gf gX (by decide) rfl (by decide)
  have gf2 := b.gf gSd (by decide) rfl (by decide)
  have gf3 := b.gf gPl (by decide) rfl (by decide)
  have gmP := b.gm gPlan (by decide) rfl (by decide)
  have gmS := b.gm gSome (by decide) rfl (by decide)
  have gmM := b.gm gMix (by decide) rfl (by decide)
  have gmD := b.gm gDr (by decide) rfl (by decide)
  have cX : Cls X.K C := by rw [b.k_]; exact cl.c
  have mkX : Mk X.K C fI := by rw [b.k_]; exact MK
  have mTX : Meth X.K C "triangles" fT := by rw [b.k_]; exact mT
  have giX : FnOk X.prog X.w X.K X.mg X.base CX0 12 fI fdI ["self", "plan", "cuts"] (spM 3 (RInit C)) := by rw [b.prog, b.w_, b.k_, b.m_, b.b_]; exact GI
  have gtX : FnOk X.prog X.w X.K X.mg X.base CX0 1 fT fdT ["self"] (spD 1 (RTri C)) := by rw [b.prog, b.w_, b.k_, b.m_, b.b_]; exact GT
  have biX : Binds X.K fdI ["self", "plan", "cuts"] [] := by rw [b.k_]; exact bI
  have btX : Binds X.K fdT ["self"] [] := by rw [b.k_]; exact bT
  have mCX : X.mg "Mesh" = some (.ref C) := by rw [b.m_]; exact mC
  have glM : Gl X "Mesh" := b.gl rfl
  have hr13 : Room (12 + 1) X.A := b.room.mono (by decide)
  have hr1 : Room 1 X.A := b.room.mono (by decide)
  -- everything behind the bag
  have main : ∀ (B CC : Addr) (bs : BagS), FinS X (lawE (some (.raw (.ref a0))) (some (.raw (.ref B))) none none none none none none none none none none none none none none none) (bagM B CC bs) ((defBody sLaw).drop 1) (.bool true) := by
    intro B CC bs
    have hp := planF_in bs
    have hs := menu_ok _ hp
    have hm := math _ hp
    conv in List.drop _ _ => whnf
    refine fs_cons (sm1_st (d := plD (planF bs)) (M1 := bagM B CC (drawS bs 12)) 2 ls2 (dm_call (Mr := []) gmP (am_ ?_) .mk rfl rfl rfl rfl) rfl) ?_
    · walk_at "evs"
    generalize planF bs = p at hp hs hm ⊢
    generalize drawS bs 12 = bs1
    have hcl := cuts_len hs
    have hlp := picksF_len (cutsL p.w p.d p.s) bs1
    obtain ⟨n, S, hn, hclo, hSl, hG⟩ := hm.clo (picksF (cutsL p.w p.d p.s) bs1).1 (picksF_in hm.ne bs1) (by omega)
    refine fs_cons (sm1_st (d := .lst (ptsD (sortP S))) (M1 := bagM B CC (picksF (cutsL p.w p.d p.s) bs1).2) 3 ls3 (dm_call (Mr := []) gmS (am_ ?_) (.mk hs hm.ne hn hclo) rfl rfl rfl rfl) rfl) ?_
    · walk_at "evs"
    generalize (picksF (cutsL p.w p.d p.s) bs1).2 = bs2
    have hSS := sortP_perm S
    have hmix := mixF_perm (sortP S).length (sortP S) [] bs2 rfl
    rw [List.nil_append] at hmix
    have hperm := hmix.trans hSS
    have hSl2 : (sortP S).length ≤ 5000 := by rw [hSS.length_eq]; exact hSl
    have hpl : (mixF (sortP S).length (sortP S) [] bs2).1.length ≤ 5000 := by rw [hperm.length_eq]; exact hSl
    have hpi : ∀ q ∈ (mixF (sortP S).length (sortP S) [] bs2).1, inB p.w p.d p.s q.1 q.2 = true ∧ onC p.s q.1 q.2 = false := fun q hq => hm.cuts q (hG.cut q (hperm.mem_iff.mp hq))
    have hpc : ∀ q ∈ (mixF (sortP S).length (sortP S) [] bs2).1, ∀ u ∈ parsE p.w p.d p.s q.1 q.2, u ∈ (mixF (sortP S).length (sortP S) [] bs2).1 := fun q hq u hu => by
      have hq' := hperm.mem_iff.mp hq
      exact hperm.mem_iff.mpr (hG.cl q hq' u (hm.pars q (hG.cut q hq') u hu))
    refine fs_cons (sm1_st (d := meshD C p.w p.d p.s (mixF (sortP S).length (sortP S) [] bs2).1) (M1 := bagM B CC (mixF (sortP S).length (sortP S) [] bs2).2) 4 ls4 (dm_make (R := RInit C) (n := 3) (k := 12) (args := [plD p, .lst (ptsD (mixF (sortP S).length (sortP S) [] bs2).1)]) mkX giX hr13 glM mCX biX (am_cons (M1 := bagM B CC bs2) (dm_ ?_) (am_cons (M1 := bagM B CC (mixF (sortP S).length (sortP S) [] bs2).2) (dm_call (Mr := []) gmM (am_ ?_) (.mk hSl2) rfl rfl rfl rfl) am_nil rfl) rfl) (fun y => .mk hs hpl hpi hpc hm.deep) rfl (by decide) rfl rfl) rfl) ?_
    · walk_at "ev"
    · walk_at "evs"
    have hT := hm.tri S _ hG hperm
    generalize (mixF (sortP S).length (sortP S) [] bs2).2 = bs3
    generalize (mixF (sortP S).length (sortP S) [] bs2).1 = ps at hT hperm hpl hpi hpc ⊢
    have htl := leaves_len hs (keysF ps)
    have hsz : 400000 ≤ sizeLine := by decide
    have hw1 := hs.w
    have hd1 := hs.d
    have hs1 := hs.s0
    have hws := hs.ws
    have hds := hs.ds
    have hts : ∃ ts, leavesF p.w p.d p.s (keysF ps) = ts := ⟨_, rfl⟩
    obtain ⟨ts, hts⟩ := hts
    rw [hts] at hT htl
    refine fs_new 5 ls5 nw_dict rfl fun D => ?_
    refine fs_cons (sm1_nx (s1_st (d := .int 0) 6 ls6 de_int rfl)) ?_
    refine fs_cons (sm1_nx (s1_st (d := .bool true) 7 ls7 de_bool rfl)) ?_
    refine fs_forL (ds := ts.map trD) (fun rem E M => ∃ ts' ks z o8 o9 o10 o11 o12, rem = ts'.map trD ∧ (∀ t ∈ ts', t ∈ ts) ∧ E = (lawE (some (.raw (.ref a0))) (some (.raw (.ref B))) (some (plD p)) (some (.lst (ptsD (sortP S)))) (some (meshD C p.w p.d p.s ps)) (some (.raw (.ref D))) (some (.int z)) (some (.bool true)) o8 o9 o10 o11 o12 none none none none) ∧ M = bagM B CC bs3 ++ [(D, Dt.dct ks)] ∧ spotsF ts' ks = spotsF ts [] ∧ areaF ts' z = areaF ts 0 ∧ ks.length + 3 * ts'.length ≤ 60000)
      b.own b.calm ls8 (id_list (dm_ (DE.is (de_meth0 (pl := _) (ns := meshNs) (C := C) (ds := [plD p, .dct (keysF ps), .lst ((leavesF p.w p.d p.s (keysF ps)).map trD)]) (R := RTri C) (de_at 4 nm4 rfl) cX mTX gtX hr1 btX .mk (by decide) rfl) (by rw [hts])))) (fun _ => rfl) ⟨ts, [], 0, none, none, none, none, none, rfl, fun t h => h, rfl, rfl, rfl, rfl, by rw [List.length_nil]; omega⟩ (fun dd rem E M hI => ?_) (fun E' M' hI => ?_)
    · obtain ⟨ts', ks, z, o8, o9, o10, o11, o12, hrem, hin, rfl, rfl, hsp, har, hkl⟩ := hI
      cases ts' with
      | nil => cases hrem
      | cons t ts' =>
        cases hrem
        have ht := hT.co t (hin t List.mem_cons_self)
        have hta := ht.a
        have htb := ht.b
        have htc := ht.c
        have htd := ht.d
        have hte := ht.e
        have htf := ht.f
        rw [List.length_cons] at hkl
        have k1 := putP_len ks (t.a, t.b)
        have k2 := putP_len (putP ks (t.a, t.b)) (t.c, t.d)
        have k3 := spotsT_len ks t
        refine ⟨(lawE (some (.raw (.ref a0))) (some (.raw (.ref B))) (some (plD p)) (some (.lst (ptsD (sortP S)))) (some (meshD C p.w p.d p.s ps)) (some (.raw (.ref D))) (some (.int (z + absI (crsT t)))) (some (.bool true)) (some (trD t)) (some (pt t.a t.b)) (some (pt t.c t.d)) (some (pt t.e t.f)) (some (pt t.e t.f)) none none none none), bagM B CC bs3 ++ [(D, Dt.dct (spotsT ks t))], ⟨ts', spotsT ks t, z + absI (crsT t), _, _, _, _, _, rfl, fun u hu => hin u (List.mem_cons_of_mem _ hu), rfl, rfl, hsp, har, by omega⟩, ?_⟩
        refine sm_cons (sm1_nx (s1_unpackL (is := [9, 10, 11]) (ds := [pt t.a t.b, pt t.c t.d, pt t.e t.f]) b.calm ls9.nd ?_ ⟨ls9.n, ls9.l, ls9.f, fun _ => rfl, ls10.n, ls10.l, ls10.f, fun _ => rfl, ls11.n, ls11.l, ls11.f, fun _ => rfl, trivial⟩ rfl rfl rfl rfl rfl rfl)) ?_
        · walk_at "ev"
        refine sm_cons (sm1_nx (s1_st (d := .int (z + absI (crsT t))) 6 ls6 (de_add ?_ (de_abs gabs mabs ?_ rfl)) rfl)) ?_
        · walk_at "ev"
        · walk_at "ev"
        refine sm_cons (sm1_for (M1 := bagM B CC bs3 ++ [(D, Dt.dct ks)]) b.own b.calm ls12 (id_list (ds := [pt t.a t.b, pt t.c t.d, pt t.e t.f]) (dm_ ?_))
          (.next (E' := (lawE (some (.raw (.ref a0))) (some (.raw (.ref B))) (some (plD p)) (some (.lst (ptsD (sortP S)))) (some (meshD C p.w p.d p.s ps)) (some (.raw (.ref D))) (some (.int (z + absI (crsT t)))) (some (.bool true)) (some (trD t)) (some (pt t.a t.b)) (some (pt t.c t.d)) (some (pt t.e t.f)) (some (pt t.a t.b)) none none none none)) (M' := bagM B CC bs3 ++ [(D, Dt.dct (putP ks (t.a, t.b)))]) (sm_cons (sm1_putT (m := 2) (D := D) (x := t.a) (y := t.b) hu1 de_bool (de_at 5 nm5 rfl) (de_at 12 nm12 rfl) rfl (by omega) rfl) sm_nil)
          (.next (E' := (lawE (some (.raw (.ref a0))) (some (.raw (.ref B))) (some (plD p)) (some (.lst (ptsD (sortP S)))) (some (meshD C p.w p.d p.s ps)) (some (.raw (.ref D))) (some (.int (z + absI (crsT t)))) (some (.bool true)) (some (trD t)) (some (pt t.a t.b)) (some (pt t.c t.d)) (some (pt t.e t.f)) (some (pt t.c t.d)) none none none none)) (M' := bagM B CC bs3 ++ [(D, Dt.dct (putP (putP ks (t.a, t.b)) (t.c, t.d)))]) (sm_cons (sm1_putT (m := 2) (D := D) (x := t.c) (y := t.d) hu1 de_bool (de_at 5 nm5 rfl) (de_at 12 nm12 rfl) rfl (by omega) rfl) sm_nil)
          (.next (E' := (lawE (some (.raw (.ref a0))) (some (.raw (.ref B))) (some (plD p)) (some (.lst (ptsD (sortP S)))) (some (meshD C p.w p.d p.s ps)) (some (.raw (.ref D))) (some (.int (z + absI (crsT t)))) (some (.bool true)) (some (trD t)) (some (pt t.a t.b)) (some (pt t.c t.d)) (some (pt t.e t.f)) (some (pt t.e t.f)) none none none none)) (M' := bagM B CC bs3 ++ [(D, Dt.dct (spotsT ks t))]) (sm_cons (sm1_putT (m := 2) (D := D) (x := t.e) (y := t.f) hu1 de_bool (de_at 5 nm5 rfl) (de_at 12 nm12 rfl) rfl (by omega) rfl) sm_nil) .nil))) (fun _ => rfl)) sm_nil
        walk_at "ev"
    obtain ⟨ts', ks, z, o8, o9, o10, o11, o12, hrem, hin, rfl, rfl, hsp, har, hkl⟩ := hI
    have hnil : ts' = [] := List.map_eq_nil_iff.mp hrem.symm
    subst hnil
    have hsp' : ks = spotsF ts [] := hsp
    have har' : z = areaF ts 0 := har
    subst hsp' har'
    refine fs_freeze (M := bagM B CC bs3) (D := D) (cc := Dt.dct (spotsF ts [])) 5 rfl ?_
    refine fs_forL (ds := ts.map trD) (fun rem E M => ∃ ts' o8 o9 o10 o11 o12, rem = ts'.map trD ∧ (∀ t ∈ ts', t ∈ ts) ∧ E = (lawE (some (.raw (.ref a0))) (some (.raw (.ref B))) (some (plD p)) (some (.lst (ptsD (sortP S)))) (some (meshD C p.w p.d p.s ps)) (some (.dct (spotsF ts []))) (some (.int (areaF ts 0))) (some (.bool true)) o8 o9 o10 o11 o12 none none none none) ∧ M = bagM B CC bs3)
      b.own b.calm ls8 (id_list (dm_ (DE.is (de_meth0 (pl := _) (ns := meshNs) (C := C) (ds := [plD p, .dct (keysF ps), .lst ((leavesF p.w p.d p.s (keysF ps)).map trD)]) (R := RTri C) (de_at 4 nm4 rfl) cX mTX gtX hr1 btX .mk (by decide) rfl) (by rw [hts])))) (fun _ => rfl) ⟨ts, o8, o9, o10, o11, o12, rfl, fun t h => h, rfl, rfl⟩ (fun dd rem E M hI => ?_) (fun E' M' hI => ?_)
    · obtain ⟨ts', o8, o9, o10, o11, o12, hrem, hin, rfl, rfl⟩ := hI
      cases ts' with
      | nil => cases hrem
      | cons t ts' =>
        cases hrem
        have htm := hin t List.mem_cons_self
        have ht := hT.co t htm
        have hnz := hT.nz t htm
        have hab := (hT.cl t htm).ab
        have hbc := (hT.cl t htm).bc
        have hca := (hT.cl t htm).ca
        have hta := ht.a
        have htb := ht.b
        have htc := ht.c
        have htd := ht.d
        have hte := ht.e
        have htf := ht.f
        refine ⟨(lawE (some (.raw (.ref a0))) (some (.raw (.ref B))) (some (plD p)) (some (.lst (ptsD (sortP S)))) (some (meshD C p.w p.d p.s ps)) (some (.dct (spotsF ts []))) (some (.int (areaF ts 0))) (some (.bool true)) (some (trD t)) (some (pt t.a t.b)) (some (pt t.c t.d)) (some (pt t.e t.f)) o12 none none none none), bagM B CC bs3, ⟨ts', _, _, _, _, _, rfl, fun u hu => hin u (List.mem_cons_of_mem _ hu), rfl, rfl⟩, ?_⟩
        refine sm_cons (sm1_nx (s1_unpackL (is := [9, 10, 11]) (ds := [pt t.a t.b, pt t.c t.d, pt t.e t.f]) b.calm ls9.nd ?_ ⟨ls9.n, ls9.l, ls9.f, fun _ => rfl, ls10.n, ls10.l, ls10.f, fun _ => rfl, ls11.n, ls11.l, ls11.f, fun _ => rfl, trivial⟩ rfl rfl rfl rfl rfl rfl)) ?_
        · walk_at "ev"
        refine sm_cons (sm1_nx (s1_st (d := .bool true) 7 ls7 (DE.is (d := .bool (true && (!decide (crsT t = 0) && true))) ?_ ?_) rfl)) ?_
        · walk_at "ev"
        · rw [decide_eq_false hnz]
          rfl
        refine sm_cons (sm1_nx (s1_st (d := .bool true) 7 ls7 (DE.is (d := .bool (true && (true && true))) ?_ rfl) rfl)) sm_nil
        walk_at "ev"
    obtain ⟨ts', o8, o9, o10, o11, o12, hrem, hin, rfl, rfl⟩ := hI
    refine fs_cons (sm1_nx (s1_st (d := .bool true) 7 ls7 (DE.is (d := .bool (true && decide (areaF ts 0 = 2 * p.w * p.d * p.s * p.s))) ?_ ?_) rfl)) ?_
    · walk_at "ev"
    · rw [hT.ar, decide_eq_true rfl]
      rfl
    refine fs_cons (sm1_st (d := .int (4 * drawR bs3 (p.w * p.s) + 1)) (M1 := bagM B CC (drawS bs3 (p.w * p.s))) 13 ls13 (dm_add (dm_mul (dm_ de_int) (dm_call (Mr := []) gmD (am_ ?_) (.mk ⟨by omega, by omega⟩) rfl rfl rfl rfl) (.inl ⟨by decide, by decide⟩)) (dm_ de_int)) rfl) ?_
    · walk_at "evs"
    have hi := draw_lt bs3 hws.1
    generalize drawR bs3 (p.w * p.s) = i at hi ⊢
    generalize drawS bs3 (p.w * p.s) = bs4
    refine fs_cons (sm1_st (d := .int (4 * drawR bs4 (p.d * p.s) + 2)) (M1 := bagM B CC (drawS bs4 (p.d * p.s))) 14 ls14 (dm_add (dm_mul (dm_ de_int) (dm_call (Mr := []) gmD (am_ ?_) (.mk ⟨by omega, by omega⟩) rfl rfl rfl rfl) (.inl ⟨by decide, by decide⟩)) (dm_ de_int)) rfl) ?_
    · walk_at "evs"
    have hj := draw_lt bs4 hds.1
    generalize drawR bs4 (p.d * p.s) = j at hj ⊢
    generalize drawS bs4 (p.d * p.s) = bs5
    have hone := hT.pt i j hi.1 hi.2 hj.1 hj.2
    have hx : Sm (4 * i + 1) := by omega
    have hy : Sm (4 * j + 2) := by omega
    generalize 4 * i + 1 = x at hone hx ⊢
    generalize 4 * j + 2 = y at hone hy ⊢
    refine fs_cons (sm1_nx (s1_st (d := .int 1) 15 ls15 (DE.is (de_len (ds := (ts.filter (insT x y)).map trD) glen mlen ?_ rfl) ?_) rfl)) ?_
    · refine DE.is ?_ (congrArg Dt.lst (filt_tr (insT x y) ts))
      apply de_lcL (f := fun dt => match dt with | .tup [.int a, .int b, .int c, .int d, .int e, .int f] => insT x y ⟨a, b, c, d, e, f⟩ | _ => false) (g := id) b.calm (by rw [b.n_]; exact b.nd) (blkOk_by (by rw [b.n_, b.sc]; decide +kernel)) (blk_pg (i := 8) (by rw [b.n_]; exact b.nd) (by rw [b.n_]; rfl) rfl (by rw [b.sc]; exact .inl rfl) (by rw [b.sc]; rfl)) (by decide) (fun _ => rfl)
      · exact DE.is (de_meth0 (pl := _) (ns := meshNs) (C := C) (ds := [plD p, .dct (keysF ps), .lst ((leavesF p.w p.d p.s (keysF ps)).map trD)]) (R := RTri C) (de_at 4 nm4 rfl) cX mTX gtX hr1 btX .mk (by decide) rfl) (by rw [hts])
      · rw [List.length_map]
        omega
      intro q hq
      obtain ⟨t, htm, rfl⟩ := List.mem_map.mp hq
      have ht := hT.co t htm
      have hta := ht.a
      have htb := ht.b
      have htc := ht.c
      have htd := ht.d
      have hte := ht.e
      have htf := ht.f
      refine ⟨.one fun cx cb => ?_, fun _ cx cb => ?_⟩
      · have nm8 := cb.nm 8 "_law_shape" (by rw [b.n_]; rfl) (by rw [b.sc]; exact .inl rfl) (by decide) (by decide)
        have nm13 := cb.nm 13 "_law_x" (by rw [b.n_]; rfl) (by rw [b.sc]; exact .inr (.inl rfl)) (by decide) (by decide)
        have nm14 := cb.nm 14 "_law_y" (by rw [b.n_]; rfl) (by rw [b.sc]; exact .inr (.inl rfl)) (by decide) (by decide)
        have gf0 := cb.gfn b gWe (by decide) rfl (by decide)
        have gl : Gl cx "min" := cb.gl (by rw [b.sc]; rfl)
        have ml : cx.mg "min" = Option.none := by
          obtain ⟨_, _, _, _, _, rfl⟩ := cb.eq
          show X.mg _ = _
          rw [b.m_]
          exact m_min
        have hcc : cx.calm = true := by
          obtain ⟨_, _, _, _, _, rfl⟩ := cb.eq
          exact hcalm
        apply DT.is
        · refine dt_cmp cmp_gt (de_min3 (x := (wts t.a t.b t.c t.d t.e t.f x y 4).getD 0 0) (y := (wts t.a t.b t.c t.d t.e t.f x y 4).getD 1 0) (u := (wts t.a t.b t.c t.d t.e t.f x y 4).getD 2 0) hcc gl ml (DE.is (d := .lst ((wts t.a t.b t.c t.d t.e t.f x y 4).map Dt.int)) ?_ rfl) rfl) de_int
          walk_at "ev"
        · rfl
      · have nm8 := cb.nm 8 "_law_shape" (by rw [b.n_]; rfl) (by rw [b.sc]; exact .inl rfl) (by decide) (by decide)
        apply de_at 8 nm8
        rfl
    · rw [List.length_map, hone]
      rfl
    refine fs_cons (E' := (lawE (some (.raw (.ref a0))) (some (.raw (.ref B))) (some (plD p)) (some (.lst (ptsD (sortP S)))) (some (meshD C p.w p.d p.s ps)) (some (.dct (spotsF ts []))) (some (.int (areaF ts 0))) (some (.bool true)) o8 o9 o10 o11 o12 (some (.int x)) (some (.int y)) (some (.int 1)) (some (.lst (ptsD ((placesL p.w p.d p.s).filter fun q => onC p.s q.1 q.2 || decide (q ∈ sortP S))))))) (M1 := bagM B CC bs5) (sm1_nx ?_) ?_
    · have key := ptF_pts (fun a b => onC p.s a b || decide ((a, b) ∈ sortP S)) (placesL p.w p.d p.s)
      have key2 : (placesL p.w p.d p.s).filter (fun q => onC p.s q.1 q.2 || decide (q ∈ sortP S)) = (placesL p.w p.d p.s).filter fun q => (fun a b => onC p.s a b || decide ((a, b) ∈ sortP S)) q.1 q.2 := rfl
      rw [key2, ← key]
      refine s1_setLcL (i := 12) (j := 16) (f := ptF fun a b => onC p.s a b || decide ((a, b) ∈ sortP S)) (g := id) (ds := ptsD (placesL p.w p.d p.s)) b.calm (by rw [b.n_]; exact b.nd) (by rw [b.n_]; rfl) (by rw [b.sc]; rfl) ?_ (blkOk_by (by rw [b.n_, b.sc]; decide +kernel)) (blk_pg (i := 12) (by rw [b.n_]; exact b.nd) (by rw [b.n_]; rfl) rfl (by rw [b.sc]; exact .inl rfl) (by rw [b.sc]; rfl)) (by decide) (fun _ => rfl) ?_ ?_ (fun q hq => ?_)
      · exact sw_true (by rw [b.sc]; rfl) (by rw [b.sc]; rfl) rfl rfl
      · walk_at "ev"
      · rw [List.length_map]
        exact Nat.lt_of_le_of_lt (places_len hs) (by decide)
      obtain ⟨⟨u, v⟩, _, rfl⟩ := List.mem_map.mp hq
      refine ⟨.one fun cx cb => ?_, fun _ cx cb => ?_⟩
      · have nm2 := cb.nm 2 "_law_plan_here" (by rw [b.n_]; rfl) (by rw [b.sc]; exact .inr (.inl rfl)) (by decide) (by decide)
        have nm3 := cb.nm 3 "_law_some_here" (by rw [b.n_]; rfl) (by rw [b.sc]; exact .inr (.inl rfl)) (by decide) (by decide)
        have nm12 := cb.nm 12 "_law_at" (by rw [b.n_]; rfl) (by rw [b.sc]; exact .inl rfl) (by decide) (by decide)
        have gf0 := cb.gfn b gOn (by decide) rfl (by decide)
        have hu65c : cx.A.units + 65 < cLine := by
          obtain ⟨_, _, _, _, _, rfl⟩ := cb.eq
          exact hu65
        refine DT.is (dt_w (dw_or (x := onC p.s u v) ?_ fun _ => dw_or1 (dt_inL (x := u) (y := v) (ps := sortP S) hu65c (de_at 12 nm12 rfl) (de_at 3 nm3 rfl) rfl))) rfl
        walk_at "et"
      · have nm12 := cb.nm 12 "_law_at" (by rw [b.n_]; rfl) (by rw [b.sc]; exact .inl rfl) (by decide) (by decide)
        apply de_at 12 nm12
        rfl
    refine fs_of (M' := bagM B CC bs5) (sm_rt (ss_last (s1_ret (DE.is (d := .bool (true && (decide ((1 : Int) = 1) && decide (sortP (spotsF ts []) = (placesL p.w p.d p.s).filter fun q => onC p.s q.1 q.2 || decide (q ∈ sortP S))))) (de_and (de_at 7 nm7 rfl) fun _ => de_and (de_cmp cmp_eq (de_at 15 nm15 rfl) de_int) fun _ => de_one (de_eqL hu64 (de_sortT hcalm gsorted msorted (de_at 5 nm5 rfl) rfl) (de_at 16 nm16 rfl))) ?_))))
    rw [hT.sp]
    simp
  conv in defBody _ => whnf
  obtain ⟨⟨fb, fdb, psb, FB, hmb, kpb, bb, _⟩⟩ := b.fn_ gBag
  refine ⟨_, pss_cons (ps_set ls1.nd ls1.n ls1.l (pe_call (ds := []) (dvs := []) (E := E0) FB hr1 (b.gl rfl) hmb kpb bb .nil pass0 (pa_cons (pe_var nm0.n nm0.v nm0.d1 nm0.d2) pa_nil)) rfl ls1.f) pss_u, ?_⟩
  refine ⟨_, rfl, a0, ns, rfl, ?_, fun B CC cells H' hSm hB hC hBC eB eC => ?_⟩
  · exact hS
  have hn : Same (fun _ => Option.none : Hp) H' := fun a o e => by cases e
  refine main B CC ⟨cells, 0, 7⟩ (fun _ => Option.none) _ H' _ hn ?_ ⟨fun i D c h => ?_, fun i j D c c' h h' => ?_⟩ fun v Hf' H2 r => ?_
  · refine ⟨rfl, fun i d h => ?_⟩
    match i, h with
    | 0, h => cases h; exact ⟨_, rfl, .raw _⟩
    | 1, h => cases h; exact ⟨_, rfl, .raw _⟩
    | 2, h => cases h
    | 3, h => cases h
    | 4, h => cases h
    | 5, h => cases h
    | 6, h => cases h
    | 7, h => cases h
    | 8, h => cases h
    | 9, h => cases h
    | 10, h => cases h
    | 11, h => cases h
    | 12, h => cases h
    | 13, h => cases h
    | 14, h => cases h
    | 15, h => cases h
    | 16, h => cases h
    | n + 17, h => cases h
  · match i, h with
    | 0, h => cases h; exact ⟨rfl, _, eB, .cons (.raw _) (.cons (.int _) (.cons (.int _) .nil))⟩
    | 1, h => cases h; exact ⟨rfl, _, eC, reps_ints cells⟩
    | n + 2, h => cases h
  · match i, j, h, h' with
    | 0, 0, h, h' => rfl
    | 0, 1, h, h' => cases h; cases h'; exact absurd rfl hBC
    | 1, 0, h, h' => cases h; cases h'; exact absurd rfl hBC
    | 1, 1, h, h' => rfl
    | n + 2, _, h, _ => cases h
    | 0, n + 2, _, h => cases h
    | 1, n + 2, _, h => cases h
  · cases r
    exact hQ H2
end
end Br

-- BrP
namespace Br
/-! the plain law: what is looked at in every node of every tree -/
def isAnc (p : PL) (m : Int × Int) : Nat → Int × Int → Bool
  | 0, q => decide (m = q)
  | n + 1, q => decide (m = q) || (upsL p.w p.d p.s q.1 q.2).any (isAnc p m n)
def sideOK (p : PL) (m : Option (Int × Int)) (a b c d : Int) : Bool := (placesL p.w p.d p.s).all fun q => !btw a b c d q.1 q.2 || (!onC p.s q.1 q.2 && match m with
  | some m => isAnc p m 7 q
  | none => false)
def coB (t : T6) : Bool := decide (0 ≤ t.a ∧ t.a ≤ 8) && decide (0 ≤ t.b ∧ t.b ≤ 8) && decide (0 ≤ t.c ∧ t.c ≤ 8) && decide (0 ≤ t.d ∧ t.d ≤ 8) && decide (0 ≤ t.e ∧ t.e ≤ 8) && decide (0 ≤ t.f ∧ t.f ≤ 8)
def nodeOK (p : PL) (t : T6) : Bool := coB t && !decide (crsT t = 0) && sideOK p (midT t) t.a t.b t.c t.d && sideOK p (midT t) t.c t.d t.e t.f && sideOK p (midT t) t.e t.f t.a t.b
def spots4 (p : PL) : List (Int × Int) := (List.range (p.w * p.s).toNat).flatMap fun i : Nat => (List.range (p.d * p.s).toNat).map fun j : Nat => (4 * (i : Int) + 1, 4 * (j : Int) + 2)
def splitOK (p : PL) (t : T6) : Bool := decide (absI (crsT t) = absI (crsT (half1 t)) + absI (crsT (half2 t))) && (spots4 p).all fun q => (insT q.1 q.2 t).toNat == (insT q.1 q.2 (half1 t)).toNat + (insT q.1 q.2 (half2 t)).toNat
def chk (p : PL) : Nat → T6 → Bool
  | 0, t => nodeOK p t && (midT t).isNone
  | n + 1, t => nodeOK p t && ((midT t).isNone || (splitOK p t && chk p n (half1 t) && chk p n (half2 t)))
def cornersT (t : T6) : List (Int × Int) := [(t.a, t.b), (t.c, t.d), (t.e, t.f)]
def hasPath (p : PL) (q : Int × Int) : Nat → T6 → Bool
  | 0, _ => false
  | n + 1, t => match midT t with
    | none => false
    | some m => decide (m = q) || (isAnc p m 7 q && (hasPath p q n (half1 t) || hasPath p q n (half2 t)))
def upB : List (Int × Int) → Bool
  | [] => true
  | q :: qs => qs.all (fun r => leP q r && !decide (q = r)) && upB qs
abbrev rts (p : PL) : List T6 := rootsF p.w p.d p.s
structure ChkA (p : PL) : Prop where
  h1 : (rts p).all (chk p 7) = true
  h2 : (rts p).all (deepT 7) = true
  h3 : areaF (rts p) 0 = 2 * p.w * p.d * p.s * p.s
  h4 : ((spots4 p).all fun q => ((rts p).filter (insT q.1 q.2)).length == 1) = true
  h5 : ((rts p).all fun t => (cornersT t).all fun q => decide (q ∈ placesL p.w p.d p.s) && onC p.s q.1 q.2) = true
  h6 : ((placesL p.w p.d p.s).all fun q => !onC p.s q.1 q.2 || (rts p).any fun t => decide (q ∈ cornersT t)) = true
  h7 : ((cutsL p.w p.d p.s).all fun q => (rts p).any (hasPath p q 7)) = true
  h8 : 0 < (cutsL p.w p.d p.s).length
  h9 : ((cutsL p.w p.d p.s).all fun q => (parsE p.w p.d p.s q.1 q.2).all fun u => decide (u ∈ upsL p.w p.d p.s q.1 q.2)) = true
  h10 : upB (placesL p.w p.d p.s) = true
section
variable {p : PL} {S ks : List (Int × Int)}
theorem chk_leaf (hk : ∀ q, q ∈ ks ↔ q ∈ S) : ∀ (n : Nat) (t : T6), chk p n t = true → ∀ u ∈ spr ks n t, nodeOK p u = true ∧ optIn ks (midT u) = false
  | 0, t, h, u, hu => by
    have e : u = t := by simpa [spr] using hu
    subst e
    unfold chk at h
    rw [Bool.and_eq_true] at h
    refine ⟨h.1, ?_⟩
    rw [Option.isNone_iff_eq_none.mp h.2]
    rfl
  | n + 1, t, h, u, hu => by
    unfold chk at h
    rw [Bool.and_eq_true, Bool.or_eq_true] at h
    unfold spr at hu
    cases ho : optIn ks (midT t) with
    | true =>
      rw [ho, if_pos rfl] at hu
      have hs := h.2.resolve_left fun z => by
        rw [Option.isNone_iff_eq_none.mp z] at ho
        cases ho
      rw [Bool.and_eq_true, Bool.and_eq_true] at hs
      rcases List.mem_append.mp hu with hu | hu
      · exact chk_leaf hk n _ hs.1.2 u hu
      · exact chk_leaf hk n _ hs.2 u hu
    | false =>
      rw [ho, if_neg Bool.false_ne_true] at hu
      have e : u = t := by simpa using hu
      subst e
      exact ⟨h.1, ho⟩
theorem chk_split {n : Nat} {t : T6} (h : chk p (n + 1) t = true) (ho : optIn ks (midT t) = true) : splitOK p t = true ∧ chk p n (half1 t) = true ∧ chk p n (half2 t) = true := by
  unfold chk at h
  rw [Bool.and_eq_true, Bool.or_eq_true] at h
  have hs := h.2.resolve_left fun z => by
    rw [Option.isNone_iff_eq_none.mp z] at ho
    cases ho
  rw [Bool.and_eq_true, Bool.and_eq_true] at hs
  exact ⟨hs.1.1, hs.1.2, hs.2⟩
theorem area_shift : ∀ (ts : List T6) (z : Int), areaF ts z = z + areaF ts 0
  | [], z => by simp [areaF]
  | t :: ts, z => by
    have h1 := area_shift ts (z + absI (crsT t))
    have h2 := area_shift ts (0 + absI (crsT t))
    have e1 : areaF (t :: ts) z = areaF ts (z + absI (crsT t)) := rfl
    have e2 : areaF (t :: ts) 0 = areaF ts (0 + absI (crsT t)) := rfl
    omega
theorem area_app (xs ys : List T6) : areaF (xs ++ ys) 0 = areaF xs 0 + areaF ys 0 := by
  have e : areaF (xs ++ ys) 0 = areaF ys (areaF xs 0) := List.foldl_append
  rw [e, area_shift]
theorem area_one (t : T6) : areaF [t] 0 = absI (crsT t) := by
  show 0 + absI (crsT t) = _
  omega
theorem area_spr : ∀ (n : Nat) (t : T6), chk p n t = true → areaF (spr ks n t) 0 = absI (crsT t)
  | 0, t, _ => area_one t
  | n + 1, t, h => by
    unfold spr
    cases ho : optIn ks (midT t) with
    | true =>
      obtain ⟨h1, h2, h3⟩ := chk_split h ho
      rw [if_pos rfl, area_app, area_spr n _ h2, area_spr n _ h3]
      unfold splitOK at h1
      rw [Bool.and_eq_true] at h1
      exact (of_decide_eq_true h1.1).symm
    | false =>
      rw [if_neg Bool.false_ne_true]
      exact area_one t
theorem area_all : ∀ ts : List T6, (∀ t ∈ ts, chk p 7 t = true) → areaF (ts.flatMap (spr ks 7)) 0 = areaF ts 0
  | [], _ => rfl
  | t :: ts, h => by
    rw [List.flatMap_cons, area_app, area_spr 7 t (h t List.mem_cons_self), area_all ts fun u hu => h u (List.mem_cons_of_mem _ hu)]
    have e : areaF (t :: ts) 0 = areaF ts (0 + absI (crsT t)) := rfl
    have := area_shift ts (0 + absI (crsT t))
    omega
theorem filt_one (f : T6 → Bool) (t : T6) : ([t].filter f).length = (f t).toNat := by
  rw [List.filter_cons]
  cases f t <;> rfl
theorem ins_spr {q : Int × Int} (hq : q ∈ spots4 p) : ∀ (n : Nat) (t : T6), chk p n t = true → ((spr ks n t).filter (insT q.1 q.2)).length = (insT q.1 q.2 t).toNat
  | 0, t, _ => filt_one _ t
  | n + 1, t, h => by
    unfold spr
    cases ho : optIn ks (midT t) with
    | true =>
      obtain ⟨h1, h2, h3⟩ := chk_split h ho
      rw [if_pos rfl, List.filter_append, List.length_append, ins_spr hq n _ h2, ins_spr hq n _ h3]
      unfold splitOK at h1
      rw [Bool.and_eq_true, List.all_eq_true] at h1
      exact (eq_of_beq (h1.2 q hq)).symm
    | false =>
      rw [if_neg Bool.false_ne_true]
      exact filt_one _ t
theorem ins_all {q : Int × Int} (hq : q ∈ spots4 p) : ∀ ts : List T6, (∀ t ∈ ts, chk p 7 t = true) → ((ts.flatMap (spr ks 7)).filter (insT q.1 q.2)).length = (ts.filter (insT q.1 q.2)).length
  | [], _ => rfl
  | t :: ts, h => by
    rw [List.flatMap_cons, List.filter_append, List.length_append, ins_spr hq 7 t (h t List.mem_cons_self), ins_all hq ts fun u hu => h u (List.mem_cons_of_mem _ hu), List.filter_cons]
    cases insT q.1 q.2 t with
    | true => rw [if_pos rfl, List.length_cons]; show 1 + _ = _; omega
    | false => rw [if_neg Bool.false_ne_true]; show 0 + _ = _; omega
theorem mem_spotsF : ∀ (ts : List T6) (k0 : List (Int × Int)) (q : Int × Int), q ∈ spotsF ts k0 ↔ q ∈ k0 ∨ ∃ t ∈ ts, q ∈ cornersT t
  | [], k0, q => by simp [spotsF]
  | t :: ts, k0, q => by
    have e : spotsF (t :: ts) k0 = spotsF ts (spotsT k0 t) := rfl
    rw [e, mem_spotsF ts]
    have e2 : q ∈ spotsT k0 t ↔ q ∈ k0 ∨ q ∈ cornersT t := by
      unfold spotsT cornersT
      rw [mem_putP, mem_putP, mem_putP]
      simp [or_assoc]
    rw [e2]
    constructor
    · rintro ((h | h) | ⟨u, hu, h⟩)
      · exact .inl h
      · exact .inr ⟨t, List.mem_cons_self, h⟩
      · exact .inr ⟨u, List.mem_cons_of_mem _ hu, h⟩
    · rintro (h | ⟨u, hu, h⟩)
      · exact .inl (.inl h)
      · rcases List.mem_cons.mp hu with rfl | hu
        · exact .inl (.inr h)
        · exact .inr ⟨u, hu, h⟩
theorem nd_putP {k0 : List (Int × Int)} (h : k0.Nodup) (q : Int × Int) : (putP k0 q).Nodup := by
  unfold putP
  split
  · exact h
  · next hn => exact List.nodup_append.mpr ⟨h, List.nodup_cons.mpr ⟨List.not_mem_nil, List.nodup_nil⟩, fun a ha b hb => by
      rw [List.mem_singleton] at hb
      intro z
      exact hn (by rw [← hb, ← z]; exact ha)⟩
theorem nd_spotsF : ∀ (ts : List T6) (k0 : List (Int × Int)), k0.Nodup → (spotsF ts k0).Nodup
  | [], _, h => h
  | t :: ts, k0, h => nd_spotsF ts _ (nd_putP (nd_putP (nd_putP h _) _) _)
theorem midT_some {t : T6} {m : Int × Int} (h : midT t = some m) : m = ((t.a + t.c) / 2, (t.b + t.d) / 2) := by
  unfold midT at h
  split at h
  · cases h
  · cases h; rfl
theorem optIn_mem {m : Option (Int × Int)} (h : optIn ks m = true) : ∃ q, m = some q ∧ q ∈ ks := by
  cases m with
  | none => cases h
  | some q => exact ⟨q, rfl, of_decide_eq_true h⟩
theorem corner_in (hk : ∀ q, q ∈ ks ↔ q ∈ S) : ∀ (n : Nat) (t : T6), ∀ u ∈ spr ks n t, ∀ q ∈ cornersT u, q ∈ cornersT t ∨ q ∈ S
  | 0, t, u, hu, q, hq => by
    have e : u = t := by simpa [spr] using hu
    subst e
    exact .inl hq
  | n + 1, t, u, hu, q, hq => by
    unfold spr at hu
    cases ho : optIn ks (midT t) with
    | true =>
      rw [ho, if_pos rfl] at hu
      obtain ⟨m, hm, hmk⟩ := optIn_mem ho
      have em := midT_some hm
      have hmS : ((t.a + t.c) / 2, (t.b + t.d) / 2) ∈ S := by rw [← em]; exact (hk m).mp hmk
      rcases List.mem_append.mp hu with hu | hu
      · rcases corner_in hk n _ u hu q hq with h | h
        · unfold cornersT half1 at h
          simp only [List.mem_cons, List.not_mem_nil, or_false] at h
          unfold cornersT
          simp only [List.mem_cons, List.not_mem_nil, or_false]
          rcases h with h | h | h
          · exact .inl (.inl h)
          · exact .inl (.inr (.inr h))
          · exact .inr (by rw [h]; exact hmS)
        · exact .inr h
      · rcases corner_in hk n _ u hu q hq with h | h
        · unfold cornersT half2 at h
          simp only [List.mem_cons, List.not_mem_nil, or_false] at h
          unfold cornersT
          simp only [List.mem_cons, List.not_mem_nil, or_false]
          rcases h with h | h | h
          · exact .inl (.inr (.inr h))
          · exact .inl (.inr (.inl h))
          · exact .inr (by rw [h]; exact hmS)
        · exact .inr h
    | false =>
      rw [ho, if_neg Bool.false_ne_true] at hu
      have e : u = t := by simpa using hu
      subst e
      exact .inl hq
theorem corner_stay : ∀ (n : Nat) (t : T6), ∀ q ∈ cornersT t, ∃ u ∈ spr ks n t, q ∈ cornersT u
  | 0, t, q, hq => ⟨t, by simp [spr], hq⟩
  | n + 1, t, q, hq => by
    unfold spr
    cases ho : optIn ks (midT t) with
    | true =>
      rw [if_pos rfl]
      unfold cornersT at hq
      simp only [List.mem_cons, List.not_mem_nil, or_false] at hq
      rcases hq with h | h | h
      · obtain ⟨u, hu, hc⟩ := corner_stay n (half1 t) q (by unfold cornersT half1; simp only [List.mem_cons, List.not_mem_nil, or_false]; exact .inl h)
        exact ⟨u, List.mem_append_left _ hu, hc⟩
      · obtain ⟨u, hu, hc⟩ := corner_stay n (half2 t) q (by unfold cornersT half2; simp only [List.mem_cons, List.not_mem_nil, or_false]; exact .inr (.inl h))
        exact ⟨u, List.mem_append_right _ hu, hc⟩
      · obtain ⟨u, hu, hc⟩ := corner_stay n (half1 t) q (by unfold cornersT half1; simp only [List.mem_cons, List.not_mem_nil, or_false]; exact .inr (.inl h))
        exact ⟨u, List.mem_append_left _ hu, hc⟩
    | false =>
      rw [if_neg Bool.false_ne_true]
      exact ⟨t, List.mem_singleton.mpr rfl, hq⟩
theorem anc_in (hc : ∀ q ∈ S, ∀ u ∈ upsL p.w p.d p.s q.1 q.2, u ∈ S) {m : Int × Int} : ∀ (n : Nat) (q : Int × Int), isAnc p m n q = true → q ∈ S → m ∈ S
  | 0, q, h, hq => by
    have e : m = q := of_decide_eq_true h
    rw [e]; exact hq
  | n + 1, q, h, hq => by
    unfold isAnc at h
    rw [Bool.or_eq_true] at h
    rcases h with h | h
    · have e : m = q := of_decide_eq_true h
      rw [e]; exact hq
    · obtain ⟨u, hu, h⟩ := List.any_eq_true.mp h
      exact anc_in hc n u h (hc q hq u hu)
theorem cut_corner (hk : ∀ q, q ∈ ks ↔ q ∈ S) (hc : ∀ q ∈ S, ∀ u ∈ upsL p.w p.d p.s q.1 q.2, u ∈ S) {q : Int × Int} (hq : q ∈ S) : ∀ (n : Nat) (t : T6), hasPath p q n t = true → ∃ u ∈ spr ks n t, q ∈ cornersT u
  | 0, t, h => by cases h
  | n + 1, t, h => by
    unfold hasPath at h
    cases hm : midT t with
    | none => rw [hm] at h; cases h
    | some m =>
      rw [hm] at h
      dsimp only at h
      rw [Bool.or_eq_true, Bool.and_eq_true, Bool.or_eq_true] at h
      have hmS : m ∈ S := by
        rcases h with h | h
        · have e : m = q := of_decide_eq_true h
          rw [e]; exact hq
        · exact anc_in hc 7 q h.1 hq
      have ho : optIn ks (midT t) = true := by
        rw [hm]
        exact decide_eq_true ((hk m).mpr hmS)
      unfold spr
      rw [ho, if_pos rfl]
      rcases h with h | ⟨_, h | h⟩
      · have e : m = q := of_decide_eq_true h
        have em := midT_some hm
        obtain ⟨u, hu, hcu⟩ := corner_stay (ks := ks) n (half1 t) q (by unfold cornersT half1; simp only [List.mem_cons, List.not_mem_nil, or_false]; exact .inr (.inr (by rw [← e, em])))
        exact ⟨u, List.mem_append_left _ hu, hcu⟩
      · obtain ⟨u, hu, hcu⟩ := cut_corner hk hc hq n _ h
        exact ⟨u, List.mem_append_left _ hu, hcu⟩
      · obtain ⟨u, hu, hcu⟩ := cut_corner hk hc hq n _ h
        exact ⟨u, List.mem_append_right _ hu, hcu⟩
theorem upB_pw : ∀ {qs : List (Int × Int)}, upB qs = true → qs.Nodup ∧ qs.Pairwise fun a b => leP a b = true
  | [], _ => ⟨List.nodup_nil, .nil⟩
  | q :: qs, h => by
    unfold upB at h
    rw [Bool.and_eq_true, List.all_eq_true] at h
    obtain ⟨i1, i2⟩ := upB_pw h.2
    refine ⟨List.nodup_cons.mpr ⟨fun z => ?_, i1⟩, List.pairwise_cons.mpr ⟨fun r hr => ?_, i2⟩⟩
    · have := h.1 q z
      rw [decide_eq_true rfl] at this
      simp at this
    · have := h.1 r hr
      rw [Bool.and_eq_true] at this
      exact this.1
theorem perm_of {l m : List (Int × Int)} (h1 : l.Nodup) (h2 : m.Nodup) (h : ∀ q, q ∈ l ↔ q ∈ m) : l.Perm m := (List.perm_ext_iff_of_nodup h1 h2).mpr h
theorem mem_keysF {ps : List (Int × Int)} (q : Int × Int) : q ∈ keysF ps ↔ q ∈ ps := by
  unfold keysF
  rw [mem_foldP, (sortP_perm ps).mem_iff]
  simp
theorem mem_places {w d s x y : Int} (h : inB w d s x y = true) : (x, y) ∈ placesL w d s := by
  unfold inB at h
  simp only [Bool.and_eq_true, decide_eq_true_eq] at h
  unfold placesL
  refine List.mem_flatMap.mpr ⟨x.toNat, List.mem_range.mpr (by omega), List.mem_map.mpr ⟨y.toNat, List.mem_range.mpr (by omega), ?_⟩⟩
  rw [Int.toNat_of_nonneg h.1.1, Int.toNat_of_nonneg h.2.1]
theorem places_in {w d s : Int} {q : Int × Int} (h : q ∈ placesL w d s) : inB w d s q.1 q.2 = true := by
  unfold placesL at h
  obtain ⟨x, hx, h⟩ := List.mem_flatMap.mp h
  obtain ⟨y, hy, rfl⟩ := List.mem_map.mp h
  have hx' := List.mem_range.mp hx
  have hy' := List.mem_range.mp hy
  unfold inB
  simp only [Bool.and_eq_true, decide_eq_true_eq]
  omega
theorem plain_tri (A : ChkA p) {ps : List (Int × Int)} (G : GoodS p S) (hp : ps.Perm S) : Plain p S (leavesF p.w p.d p.s (keysF ps)) := by
  have hk : ∀ q, q ∈ keysF ps ↔ q ∈ S := fun q => (mem_keysF q).trans hp.mem_iff
  generalize keysF ps = ks at hk ⊢
  have c7 : ∀ t ∈ rts p, chk p 7 t = true := List.all_eq_true.mp A.h1
  have leaf : ∀ u ∈ leavesF p.w p.d p.s ks, nodeOK p u = true ∧ optIn ks (midT u) = false := fun u hu => by
    obtain ⟨t, ht, hu⟩ := List.mem_flatMap.mp hu
    exact chk_leaf hk 7 t (c7 t ht) u hu
  have spm : ∀ q, q ∈ spotsF (leavesF p.w p.d p.s ks) [] ↔ q ∈ placesL p.w p.d p.s ∧ (onC p.s q.1 q.2 = true ∨ q ∈ S) := fun q => by
    rw [mem_spotsF]
    constructor
    · rintro (h | ⟨u, hu, hq⟩)
      · cases h
      obtain ⟨t, ht, hu⟩ := List.mem_flatMap.mp hu
      rcases corner_in hk 7 t u hu q hq with h | h
      · have := List.all_eq_true.mp (List.all_eq_true.mp A.h5 t ht) q h
        rw [Bool.and_eq_true] at this
        exact ⟨of_decide_eq_true this.1, .inl this.2⟩
      · exact ⟨(List.mem_filter.mp (G.cut q h)).1, .inr h⟩
    · rintro ⟨h1, h2⟩
      refine .inr ?_
      by_cases hc : onC p.s q.1 q.2 = true
      · have := List.all_eq_true.mp A.h6 q h1
        rw [hc] at this
        obtain ⟨t, ht, hq⟩ : ∃ t, t ∈ rts p ∧ q ∈ cornersT t := by simpa using this
        obtain ⟨u, hu, hcu⟩ := corner_stay (ks := ks) 7 t q hq
        exact ⟨u, List.mem_flatMap.mpr ⟨t, ht, hu⟩, hcu⟩
      · have hq := h2.resolve_left hc
        obtain ⟨t, ht, hh⟩ := List.any_eq_true.mp (List.all_eq_true.mp A.h7 q (G.cut q hq))
        obtain ⟨u, hu, hcu⟩ := cut_corner hk G.cl hq 7 t hh
        exact ⟨u, List.mem_flatMap.mpr ⟨t, ht, hu⟩, hcu⟩
  have side : ∀ u ∈ leavesF p.w p.d p.s ks, ∀ a b c d, sideOK p (midT u) a b c d = true → ∀ q ∈ spotsF (leavesF p.w p.d p.s ks) [], btw a b c d q.1 q.2 = false := fun u hu a b c d h q hq => by
    obtain ⟨h1, h2⟩ := (spm q).mp hq
    have := List.all_eq_true.mp h q h1
    cases hb : btw a b c d q.1 q.2 with
    | false => rfl
    | true =>
      rw [hb] at this
      have this : (!onC p.s q.1 q.2 && match midT u with | some m => isAnc p m 7 q | none => false) = true := by simpa using this
      rw [Bool.and_eq_true] at this
      have hn : onC p.s q.1 q.2 = false := by simpa using this.1
      have hqS : q ∈ S := h2.resolve_left fun z => by rw [hn] at z; cases z
      cases hm : midT u with
      | none => rw [hm] at this; cases this.2
      | some m =>
        rw [hm] at this
        have hmS := anc_in G.cl 7 q this.2 hqS
        have ho := (leaf u hu).2
        rw [hm] at ho
        exact absurd ((hk m).mpr hmS) (of_decide_eq_false ho)
  have nodeC : ∀ u ∈ leavesF p.w p.d p.s ks, coB u = true ∧ crsT u ≠ 0 ∧ sideOK p (midT u) u.a u.b u.c u.d = true ∧ sideOK p (midT u) u.c u.d u.e u.f = true ∧ sideOK p (midT u) u.e u.f u.a u.b = true := fun u hu => by
    have h := (leaf u hu).1
    unfold nodeOK at h
    simp only [Bool.and_eq_true] at h
    obtain ⟨⟨⟨⟨h1, h2⟩, h3⟩, h4⟩, h5⟩ := h
    exact ⟨h1, by simpa using h2, h3, h4, h5⟩
  refine ⟨fun t ht => ?_, fun t ht => (nodeC t ht).2.1, fun t ht => ⟨side t ht _ _ _ _ (nodeC t ht).2.2.1, side t ht _ _ _ _ (nodeC t ht).2.2.2.1, side t ht _ _ _ _ (nodeC t ht).2.2.2.2⟩, ?_, fun i j h1 h2 h3 h4 => ?_, ?_⟩
  · have h := (nodeC t ht).1
    unfold coB at h
    simp only [Bool.and_eq_true, decide_eq_true_eq] at h
    exact ⟨h.1.1.1.1.1, h.1.1.1.1.2, h.1.1.1.2, h.1.1.2, h.1.2, h.2⟩
  · rw [← A.h3]
    exact area_all _ c7
  · have hq : (4 * i + 1, 4 * j + 2) ∈ spots4 p := by
      unfold spots4
      refine List.mem_flatMap.mpr ⟨i.toNat, List.mem_range.mpr (by omega), List.mem_map.mpr ⟨j.toNat, List.mem_range.mpr (by omega), ?_⟩⟩
      rw [Int.toNat_of_nonneg h1, Int.toNat_of_nonneg h3]
    have e := ins_all (ks := ks) hq (rts p) c7
    have e2 := eq_of_beq (List.all_eq_true.mp A.h4 _ hq)
    exact e.trans e2
  · obtain ⟨n1, n2⟩ := upB_pw A.h10
    refine (sortP_is (perm_of (n1.filter _) (nd_spotsF _ _ List.nodup_nil) fun q => ?_) (n2.filter _)).symm
    rw [spm, List.mem_filter, Bool.or_eq_true, decide_eq_true_eq, (sortP_perm S).mem_iff]
end
end Br

-- BrPa
namespace Br
/-! the plain law: the checks of each plan -/
theorem a1 : ChkA ⟨1, 1, 2⟩ := ⟨by decide +kernel, by decide +kernel, by decide +kernel, by decide +kernel, by decide +kernel, by decide +kernel, by decide +kernel, by decide +kernel, by decide +kernel, by decide +kernel⟩
theorem a2 : ChkA ⟨1, 1, 4⟩ := ⟨by decide +kernel, by decide +kernel, by decide +kernel, by decide +kernel, by decide +kernel, by decide +kernel, by decide +kernel, by decide +kernel, by decide +kernel, by decide +kernel⟩
theorem a3 : ChkA ⟨2, 1, 2⟩ := ⟨by decide +kernel, by decide +kernel, by decide +kernel, by decide +kernel, by decide +kernel, by decide +kernel, by decide +kernel, by decide +kernel, by decide +kernel, by decide +kernel⟩
theorem a4 : ChkA ⟨1, 2, 2⟩ := ⟨by decide +kernel, by decide +kernel, by decide +kernel, by decide +kernel, by decide +kernel, by decide +kernel, by decide +kernel, by decide +kernel, by decide +kernel, by decide +kernel⟩
theorem a5 : ChkA ⟨2, 2, 2⟩ := ⟨by decide +kernel, by decide +kernel, by decide +kernel, by decide +kernel, by decide +kernel, by decide +kernel, by decide +kernel, by decide +kernel, by decide +kernel, by decide +kernel⟩
theorem a6 : ChkA ⟨3, 1, 2⟩ := ⟨by decide +kernel, by decide +kernel, by decide +kernel, by decide +kernel, by decide +kernel, by decide +kernel, by decide +kernel, by decide +kernel, by decide +kernel, by decide +kernel⟩
theorem a7 : ChkA ⟨1, 3, 2⟩ := ⟨by decide +kernel, by decide +kernel, by decide +kernel, by decide +kernel, by decide +kernel, by decide +kernel, by decide +kernel, by decide +kernel, by decide +kernel, by decide +kernel⟩
theorem a8 : ChkA ⟨2, 1, 4⟩ := ⟨by decide +kernel, by decide +kernel, by decide +kernel, by decide +kernel, by decide +kernel, by decide +kernel, by decide +kernel, by decide +kernel, by decide +kernel, by decide +kernel⟩
theorem a9 : ChkA ⟨1, 2, 4⟩ := ⟨by decide +kernel, by decide +kernel, by decide +kernel, by decide +kernel, by decide +kernel, by decide +kernel, by decide +kernel, by decide +kernel, by decide +kernel, by decide +kernel⟩
theorem a10 : ChkA ⟨3, 2, 2⟩ := ⟨by decide +kernel, by decide +kernel, by decide +kernel, by decide +kernel, by decide +kernel, by decide +kernel, by decide +kernel, by decide +kernel, by decide +kernel, by decide +kernel⟩
end Br

-- BrPb
namespace Br
/-! the plain law: the checks of the plan 1, 1, 8, subtree by subtree -/
theorem chk_mk {p : PL} {n : Nat} {t u v : T6} (h1 : nodeOK p t = true) (h2 : splitOK p t = true) (eu : half1 t = u) (ev : half2 t = v) (h3 : chk p n u = true) (h4 : chk p n v = true) : chk p (n + 1) t = true := by
  unfold chk
  rw [eu, ev, h1, h2, h3, h4]
  simp
theorem k8_4 : chk ⟨1, 1, 8⟩ 4 ⟨0, 0, 4, 0, 2, 2⟩ = true := by decide +kernel
theorem k8_5 : chk ⟨1, 1, 8⟩ 4 ⟨4, 0, 4, 4, 2, 2⟩ = true := by decide +kernel
theorem k8_3 : chk ⟨1, 1, 8⟩ 5 ⟨0, 0, 4, 4, 4, 0⟩ = true := chk_mk (by decide +kernel) (by decide +kernel) (u := ⟨0, 0, 4, 0, 2, 2⟩) (v := ⟨4, 0, 4, 4, 2, 2⟩) (by decide +kernel) (by decide +kernel) k8_4 k8_5
theorem k8_7 : chk ⟨1, 1, 8⟩ 4 ⟨4, 4, 4, 0, 6, 2⟩ = true := by decide +kernel
theorem k8_8 : chk ⟨1, 1, 8⟩ 4 ⟨4, 0, 8, 0, 6, 2⟩ = true := by decide +kernel
theorem k8_6 : chk ⟨1, 1, 8⟩ 5 ⟨4, 4, 8, 0, 4, 0⟩ = true := chk_mk (by decide +kernel) (by decide +kernel) (u := ⟨4, 4, 4, 0, 6, 2⟩) (v := ⟨4, 0, 8, 0, 6, 2⟩) (by decide +kernel) (by decide +kernel) k8_7 k8_8
theorem k8_2 : chk ⟨1, 1, 8⟩ 6 ⟨0, 0, 8, 0, 4, 4⟩ = true := chk_mk (by decide +kernel) (by decide +kernel) (u := ⟨0, 0, 4, 4, 4, 0⟩) (v := ⟨4, 4, 8, 0, 4, 0⟩) (by decide +kernel) (by decide +kernel) k8_3 k8_6
theorem k8_11 : chk ⟨1, 1, 8⟩ 4 ⟨8, 0, 8, 4, 6, 2⟩ = true := by decide +kernel
theorem k8_12 : chk ⟨1, 1, 8⟩ 4 ⟨8, 4, 4, 4, 6, 2⟩ = true := by decide +kernel
theorem k8_10 : chk ⟨1, 1, 8⟩ 5 ⟨8, 0, 4, 4, 8, 4⟩ = true := chk_mk (by decide +kernel) (by decide +kernel) (u := ⟨8, 0, 8, 4, 6, 2⟩) (v := ⟨8, 4, 4, 4, 6, 2⟩) (by decide +kernel) (by decide +kernel) k8_11 k8_12
theorem k8_14 : chk ⟨1, 1, 8⟩ 4 ⟨4, 4, 8, 4, 6, 6⟩ = true := by decide +kernel
theorem k8_15 : chk ⟨1, 1, 8⟩ 4 ⟨8, 4, 8, 8, 6, 6⟩ = true := by decide +kernel
theorem k8_13 : chk ⟨1, 1, 8⟩ 5 ⟨4, 4, 8, 8, 8, 4⟩ = true := chk_mk (by decide +kernel) (by decide +kernel) (u := ⟨4, 4, 8, 4, 6, 6⟩) (v := ⟨8, 4, 8, 8, 6, 6⟩) (by decide +kernel) (by decide +kernel) k8_14 k8_15
theorem k8_9 : chk ⟨1, 1, 8⟩ 6 ⟨8, 0, 8, 8, 4, 4⟩ = true := chk_mk (by decide +kernel) (by decide +kernel) (u := ⟨8, 0, 4, 4, 8, 4⟩) (v := ⟨4, 4, 8, 8, 8, 4⟩) (by decide +kernel) (by decide +kernel) k8_10 k8_13
theorem k8_1 : chk ⟨1, 1, 8⟩ 7 ⟨0, 0, 8, 8, 8, 0⟩ = true := chk_mk (by decide +kernel) (by decide +kernel) (u := ⟨0, 0, 8, 0, 4, 4⟩) (v := ⟨8, 0, 8, 8, 4, 4⟩) (by decide +kernel) (by decide +kernel) k8_2 k8_9
theorem k8_19 : chk ⟨1, 1, 8⟩ 4 ⟨8, 8, 4, 8, 6, 6⟩ = true := by decide +kernel
theorem k8_20 : chk ⟨1, 1, 8⟩ 4 ⟨4, 8, 4, 4, 6, 6⟩ = true := by decide +kernel
theorem k8_18 : chk ⟨1, 1, 8⟩ 5 ⟨8, 8, 4, 4, 4, 8⟩ = true := chk_mk (by decide +kernel) (by decide +kernel) (u := ⟨8, 8, 4, 8, 6, 6⟩) (v := ⟨4, 8, 4, 4, 6, 6⟩) (by decide +kernel) (by decide +kernel) k8_19 k8_20
theorem k8_22 : chk ⟨1, 1, 8⟩ 4 ⟨4, 4, 4, 8, 2, 6⟩ = true := by decide +kernel
theorem k8_23 : chk ⟨1, 1, 8⟩ 4 ⟨4, 8, 0, 8, 2, 6⟩ = true := by decide +kernel
theorem k8_21 : chk ⟨1, 1, 8⟩ 5 ⟨4, 4, 0, 8, 4, 8⟩ = true := chk_mk (by decide +kernel) (by decide +kernel) (u := ⟨4, 4, 4, 8, 2, 6⟩) (v := ⟨4, 8, 0, 8, 2, 6⟩) (by decide +kernel) (by decide +kernel) k8_22 k8_23
theorem k8_17 : chk ⟨1, 1, 8⟩ 6 ⟨8, 8, 0, 8, 4, 4⟩ = true := chk_mk (by decide +kernel) (by decide +kernel) (u := ⟨8, 8, 4, 4, 4, 8⟩) (v := ⟨4, 4, 0, 8, 4, 8⟩) (by decide +kernel) (by decide +kernel) k8_18 k8_21
theorem k8_26 : chk ⟨1, 1, 8⟩ 4 ⟨0, 8, 0, 4, 2, 6⟩ = true := by decide +kernel
theorem k8_27 : chk ⟨1, 1, 8⟩ 4 ⟨0, 4, 4, 4, 2, 6⟩ = true := by decide +kernel
theorem k8_25 : chk ⟨1, 1, 8⟩ 5 ⟨0, 8, 4, 4, 0, 4⟩ = true := chk_mk (by decide +kernel) (by decide +kernel) (u := ⟨0, 8, 0, 4, 2, 6⟩) (v := ⟨0, 4, 4, 4, 2, 6⟩) (by decide +kernel) (by decide +kernel) k8_26 k8_27
theorem k8_29 : chk ⟨1, 1, 8⟩ 4 ⟨4, 4, 0, 4, 2, 2⟩ = true := by decide +kernel
theorem k8_30 : chk ⟨1, 1, 8⟩ 4 ⟨0, 4, 0, 0, 2, 2⟩ = true := by decide +kernel
theorem k8_28 : chk ⟨1, 1, 8⟩ 5 ⟨4, 4, 0, 0, 0, 4⟩ = true := chk_mk (by decide +kernel) (by decide +kernel) (u := ⟨4, 4, 0, 4, 2, 2⟩) (v := ⟨0, 4, 0, 0, 2, 2⟩) (by decide +kernel) (by decide +kernel) k8_29 k8_30
theorem k8_24 : chk ⟨1, 1, 8⟩ 6 ⟨0, 8, 0, 0, 4, 4⟩ = true := chk_mk (by decide +kernel) (by decide +kernel) (u := ⟨0, 8, 4, 4, 0, 4⟩) (v := ⟨4, 4, 0, 0, 0, 4⟩) (by decide +kernel) (by decide +kernel) k8_25 k8_28
theorem k8_16 : chk ⟨1, 1, 8⟩ 7 ⟨8, 8, 0, 0, 0, 8⟩ = true := chk_mk (by decide +kernel) (by decide +kernel) (u := ⟨8, 8, 0, 8, 4, 4⟩) (v := ⟨0, 8, 0, 0, 4, 4⟩) (by decide +kernel) (by decide +kernel) k8_17 k8_24
theorem roots8 : rts ⟨1, 1, 8⟩ = [⟨0, 0, 8, 8, 8, 0⟩, ⟨8, 8, 0, 0, 0, 8⟩] := by decide +kernel
theorem a11 : ChkA ⟨1, 1, 8⟩ := ⟨by rw [roots8, List.all_cons, List.all_cons, k8_1, k8_16]; rfl, by decide +kernel, by decide +kernel, by decide +kernel, by decide +kernel, by decide +kernel, by decide +kernel, by decide +kernel, by decide +kernel, by decide +kernel⟩
end Br

-- BrPc
namespace Br
/-! the plain law: the closure ends -/
theorem nodup_len : ∀ {l m : List (Int × Int)}, l.Nodup → (∀ x ∈ l, x ∈ m) → l.length ≤ m.length
  | [], _, _, _ => Nat.zero_le _
  | x :: l, m, hn, hs => by
    obtain ⟨h1, h2⟩ := List.nodup_cons.mp hn
    have hx := hs x List.mem_cons_self
    have ih := nodup_len (l := l) (m := m.erase x) h2 fun y hy => (List.mem_erase_of_ne fun z => by subst z; exact h1 hy).mpr (hs y (List.mem_cons_of_mem _ hy))
    rw [List.length_erase_of_mem hx] at ih
    have := List.length_pos_of_mem hx
    rw [List.length_cons]
    omega
theorem ups_cut {p : PL} {q u : Int × Int} (h : u ∈ upsL p.w p.d p.s q.1 q.2) : u ∈ cutsL p.w p.d p.s := by
  unfold upsL at h
  have h2 := (List.mem_filter.mp h).2
  unfold okCut at h2
  rw [Bool.and_eq_true] at h2
  exact List.mem_filter.mpr ⟨mem_places h2.1, h2.2⟩
theorem close_ends (p : PL) : ∀ (m : Nat) (todo there : List (Int × Int)), there.Nodup → (∀ q ∈ there, q ∈ cutsL p.w p.d p.s) → (∀ q ∈ todo, q ∈ cutsL p.w p.d p.s) → (∀ q ∈ there, ∀ u ∈ upsL p.w p.d p.s q.1 q.2, u ∈ there ∨ u ∈ todo) →
    3 * ((cutsL p.w p.d p.s).length - there.length) + todo.length ≤ m → ∃ S, closeF (fun q => upsL p.w p.d p.s q.1 q.2) (m + 1) todo there = some S ∧ GoodS p S := by
  intro m
  induction m with
  | zero =>
    intro todo there h1 h2 h3 h4 hm
    have ht : todo = [] := List.length_eq_zero_iff.mp (by omega)
    subst ht
    exact ⟨there, rfl, h1, h2, fun q hq u hu => (h4 q hq u hu).resolve_right fun z => nomatch z⟩
  | succ m ih =>
    intro todo there h1 h2 h3 h4 hm
    unfold closeF
    cases hr : todo.reverse with
    | nil =>
      have ht : todo = [] := List.reverse_eq_nil_iff.mp hr
      subst ht
      exact ⟨there, rfl, h1, h2, fun q hq u hu => (h4 q hq u hu).resolve_right fun z => nomatch z⟩
    | cons q rr =>
      have ht : todo = rr.reverse ++ [q] := by rw [← List.reverse_reverse todo, hr, List.reverse_cons]
      have hl : todo.length = rr.reverse.length + 1 := by rw [ht, List.length_append, List.length_singleton]
      have hqc := h3 q (by rw [ht]; exact List.mem_append_right _ (List.mem_singleton.mpr rfl))
      have hrc : ∀ u ∈ rr.reverse, u ∈ cutsL p.w p.d p.s := fun u hu => h3 u (by rw [ht]; exact List.mem_append_left _ hu)
      dsimp only
      by_cases hq : q ∈ there
      · rw [if_pos hq]
        refine ih rr.reverse there h1 h2 hrc (fun a ha u hu => ?_) (by omega)
        rcases h4 a ha u hu with z | z
        · exact .inl z
        · rw [ht] at z
          rcases List.mem_append.mp z with z | z
          · exact .inr z
          · rw [List.mem_singleton] at z
            exact .inl (by rw [z]; exact hq)
      · rw [if_neg hq]
        have hnd : (there ++ [q]).Nodup := List.nodup_append.mpr ⟨h1, List.nodup_cons.mpr ⟨List.not_mem_nil, List.nodup_nil⟩, fun a ha b hb => by
          rw [List.mem_singleton] at hb
          intro z
          exact hq (by rw [← hb, ← z]; exact ha)⟩
        have hcc : ∀ a ∈ there ++ [q], a ∈ cutsL p.w p.d p.s := fun a ha => (List.mem_append.mp ha).elim (h2 a) fun z => by
          rw [List.mem_singleton] at z
          rw [z]; exact hqc
        have hle := nodup_len hnd hcc
        rw [List.length_append, List.length_singleton] at hle
        have hul := upsL_len p.w p.d p.s q.1 q.2
        refine ih _ _ hnd hcc (fun a ha => (List.mem_append.mp ha).elim (hrc a) ups_cut) (fun a ha u hu => ?_) (by rw [List.length_append, List.length_append, List.length_singleton]; omega)
        rcases List.mem_append.mp ha with ha | ha
        · rcases h4 a ha u hu with z | z
          · exact .inl (List.mem_append_left _ z)
          · rw [ht] at z
            rcases List.mem_append.mp z with z | z
            · exact .inr (List.mem_append_left _ z)
            · exact .inl (List.mem_append_right _ z)
        · rw [List.mem_singleton] at ha
          subst ha
          exact .inr (List.mem_append_right _ hu)
theorem plain_of {p : PL} (h : Small p.w p.d p.s) (A : ChkA p) : PlainLaw p := by
  refine ⟨A.h8, fun q hq => ?_, fun q hq u hu => ?_, List.all_eq_true.mp A.h2, fun S0 h0 hl => ?_, fun S ps G hp => plain_tri A G hp⟩
  · obtain ⟨h1, h2⟩ := List.mem_filter.mp hq
    exact ⟨places_in h1, by simpa using h2⟩
  · exact of_decide_eq_true (List.all_eq_true.mp (List.all_eq_true.mp A.h9 q hq) u hu)
  · have hcl := cuts_len h
    obtain ⟨S, h1, G⟩ := close_ends p (3 * (cutsL p.w p.d p.s).length + S0.length) S0 [] List.nodup_nil (fun q hq => nomatch hq) h0 (fun q hq => nomatch hq) (by rw [List.length_nil]; omega)
    have hSl := nodup_len G.nd G.cut
    exact ⟨_, S, by omega, h1, by omega, G⟩
theorem plain_menu : ∀ p ∈ menuL, PlainLaw p := by
  intro p hp
  have hs := menu_ok p hp
  unfold menuL at hp
  simp only [List.mem_cons, List.not_mem_nil, or_false] at hp
  rcases hp with rfl | rfl | rfl | rfl | rfl | rfl | rfl | rfl | rfl | rfl | rfl | rfl
  · exact plain_of hs a1
  · exact plain_of hs a2
  · exact plain_of hs a3
  · exact plain_of hs a4
  · exact plain_of hs a5
  · exact plain_of hs a2
  · exact plain_of hs a6
  · exact plain_of hs a7
  · exact plain_of hs a8
  · exact plain_of hs a9
  · exact plain_of hs a10
  · exact plain_of hs a11
end Br

-- BrZ
namespace Br
open PySem L2 PySem.Spec PyProof.Rows
theorem all_mk (math : ∀ p ∈ menuL, PlainLaw p) {l : PySem.W.OpenLaw} {w : World} {K : PySem.W.Frag} {h : Heap} {mg : Str → Option Value} {fa : Addr} (X : K.In h) (G : h.Ns mainGlobals mg) (hfa : mg "law" = some (.ref fa)) {f0 f1 f2 f3 f4 f5 f6 f7 f8 f9 f10 f11 f12 f13 f14 f15 f16 f17 f18 f19 f20 f21 f22 f23 f24 f25 f26 f27 f28 f29 f30 f31 f32 f33 f34 f35 f36 f37 C : Addr} {od0 an0 od1 an1 od2 an2 od3 an3 od4 an4 od5 an5 od6 an6 od7 an7 od8 an8 od9 an9 od10 an10 od11 an11 od12 an12 od13 an13 od14 an14 od15 an15 od16 an16 od17 an17 od18 an18 od19 an19 od20 an20 od21 an21 od22 an22 od23 an23 od24 an24 od25 an25 od26 an26 od27 an27 od28 an28 od29 an29 od30 an30 od31 an31 od32 an32 od33 an33 od34 an34 od35 an35 od36 an36 od37 an37 : Option Addr} {sl0 sl1 sl2 sl3 sl4 sl5 sl6 sl7 sl8 sl9 sl10 sl11 sl12 sl13 sl14 sl15 sl16 sl17 sl18 sl19 sl20 sl21 sl22 sl23 sl24 sl25 sl26 sl27 sl28 sl29 sl30 sl31 sl32 sl33 sl34 sl35 sl36 sl37 : Array (Option Value)} {oc0 kV0 dc0 pm0 cd0 ct0 oc1 kV1 dc1 pm1 cd1 ct1 oc2 kV2 dc2 pm2 cd2 ct2 oc3 kV3 dc3 pm3 cd3 ct3 oc4 kV4 dc4 pm4 cd4 ct4 oc5 kV5 dc5 pm5 cd5 ct5 oc6 kV6 dc6 pm6 cd6 ct6 oc7 kV7 dc7 pm7 cd7 ct7 oc8 kV8 dc8 pm8 cd8 ct8 oc9 kV9 dc9 pm9 cd9 ct9 oc10 kV10 dc10 pm10 cd10 ct10 oc11 kV11 dc11 pm11 cd11 ct11 oc12 kV12 dc12 pm12 cd12 ct12 oc13 kV13 dc13 pm13 cd13 ct13 oc14 kV14 dc14 pm14 cd14 ct14 oc15 kV15 dc15 pm15 cd15 ct15 oc16 kV16 dc16 pm16 cd16 ct16 oc17 kV17 dc17 pm17 cd17 ct17 oc18 kV18 dc18 pm18 cd18 ct18 oc19 kV19 dc19 pm19 cd19 ct19 oc20 kV20 dc20 pm20 cd20 ct20 oc21 kV21 dc21 pm21 cd21 ct21 oc22 kV22 dc22 pm22 cd22 ct22 oc23 kV23 dc23 pm23 cd23 ct23 oc24 kV24 dc24 pm24 cd24 ct24 oc25 kV25 dc25 pm25 cd25 ct25 oc26 kV26 dc26 pm26 cd26 ct26 oc27 kV27 dc27 pm27 cd27 ct27 oc28 kV28 dc28 pm28 cd28 ct28 oc29 kV29 dc29 pm29 cd29 ct29 oc30 kV30 dc30 pm30 cd30 ct30 oc31 kV31 dc31 pm31 cd31 ct31 oc32 kV32 dc32 pm32 cd32 ct32 oc33 kV33 dc33 pm33 cd33 ct33 oc34 kV34 dc34 pm34 cd34 ct34 oc35 kV35 dc35 pm35 cd35 ct35 oc36 kV36 dc36 pm36 cd36 ct36 oc37 kV37 dc37 pm37 cd37 ct37 : Value} {dT eT : Addr} {ocT : Value} {odT : Option Addr} {nT : Nat} {slT : Array (Option Value)}
    (a0 : PySem.W.nsIn K mainGlobals "lies_in" = some (some (.ref f0))) (l0 : K.lookup f0 = some ⟨oc0, od0, .func (PySem.W.fnOf "lies_in" "lies_in" (defArgs sLiesIn) (defBody sLiesIn) (defScope sLiesIn) .none kV0 dc0 pm0 an0 cd0 ct0), sl0⟩) (c0 : PySem.W.codeIn K cd0 "lies_in" = true) (k0 : PySem.W.keepIn K (.ref f0) = true)
    (a1 : PySem.W.nsIn K mainGlobals "placed" = some (some (.ref f1))) (l1 : K.lookup f1 = some ⟨oc1, od1, .func (PySem.W.fnOf "placed" "placed" (defArgs sPlaced) (defBody sPlaced) (defScope sPlaced) .none kV1 dc1 pm1 an1 cd1 ct1), sl1⟩) (c1 : PySem.W.codeIn K cd1 "placed" = true) (k1 : PySem.W.keepIn K (.ref f1) = true)
    (a2 : PySem.W.nsIn K mainGlobals "on_corner" = some (some (.ref f2))) (l2 : K.lookup f2 = some ⟨oc2, od2, .func (PySem.W.fnOf "on_corner" "on_corner" (defArgs sOnCorner) (defBody sOnCorner) (defScope sOnCorner) .none kV2 dc2 pm2 an2 cd2 ct2), sl2⟩) (c2 : PySem.W.codeIn K cd2 "on_corner" = true) (k2 : PySem.W.keepIn K (.ref f2) = true)
    (a3 : PySem.W.nsIn K mainGlobals "cut_only" = some (some (.ref f3))) (l3 : K.lookup f3 = some ⟨oc3, od3, .func (PySem.W.fnOf "cut_only" "cut_only" (defArgs sCutOnly) (defBody sCutOnly) (defScope sCutOnly) .none kV3 dc3 pm3 an3 cd3 ct3), sl3⟩) (c3 : PySem.W.codeIn K cd3 "cut_only" = true) (k3 : PySem.W.keepIn K (.ref f3) = true)
    (a4 : PySem.W.nsIn K mainGlobals "step" = some (some (.ref f4))) (l4 : K.lookup f4 = some ⟨oc4, od4, .func (PySem.W.fnOf "step" "step" (defArgs sStep) (defBody sStep) (defScope sStep) .none kV4 dc4 pm4 an4 cd4 ct4), sl4⟩) (c4 : PySem.W.codeIn K cd4 "step" = true) (k4 : PySem.W.keepIn K (.ref f4) = true)
    (a5 : PySem.W.nsIn K mainGlobals "around" = some (some (.ref f5))) (l5 : K.lookup f5 = some ⟨oc5, od5, .func (PySem.W.fnOf "around" "around" (defArgs sAround) (defBody sAround) (defScope sAround) .none kV5 dc5 pm5 an5 cd5 ct5), sl5⟩) (c5 : PySem.W.codeIn K cd5 "around" = true) (k5 : PySem.W.keepIn K (.ref f5) = true)
    (a6 : PySem.W.nsIn K mainGlobals "parents" = some (some (.ref f6))) (l6 : K.lookup f6 = some ⟨oc6, od6, .func (PySem.W.fnOf "parents" "parents" (defArgs sParents) (defBody sParents) (defScope sParents) .none kV6 dc6 pm6 an6 cd6 ct6), sl6⟩) (c6 : PySem.W.codeIn K cd6 "parents" = true) (k6 : PySem.W.keepIn K (.ref f6) = true)
    (a7 : PySem.W.nsIn K mainGlobals "noted" = some (some (.ref f7))) (l7 : K.lookup f7 = some ⟨oc7, od7, .func (PySem.W.fnOf "noted" "noted" (defArgs sNoted) (defBody sNoted) (defScope sNoted) .none kV7 dc7 pm7 an7 cd7 ct7), sl7⟩) (c7 : PySem.W.codeIn K cd7 "noted" = true) (k7 : PySem.W.keepIn K (.ref f7) = true)
    (a8 : PySem.W.nsIn K mainGlobals "crack" = some (some (.ref f8))) (l8 : K.lookup f8 = some ⟨oc8, od8, .func (PySem.W.fnOf "crack" "crack" (defArgs sCrack) (defBody sCrack) (defScope sCrack) .none kV8 dc8 pm8 an8 cd8 ct8), sl8⟩) (c8 : PySem.W.codeIn K cd8 "crack" = true) (k8 : PySem.W.keepIn K (.ref f8) = true)
    (a9 : PySem.W.nsIn K mainGlobals "roots_of" = some (some (.ref f9))) (l9 : K.lookup f9 = some ⟨oc9, od9, .func (PySem.W.fnOf "roots_of" "roots_of" (defArgs sRootsOf) (defBody sRootsOf) (defScope sRootsOf) .none kV9 dc9 pm9 an9 cd9 ct9), sl9⟩) (c9 : PySem.W.codeIn K cd9 "roots_of" = true) (k9 : PySem.W.keepIn K (.ref f9) = true)
    (a10 : PySem.W.nsIn K mainGlobals "roots" = some (some (.ref f10))) (l10 : K.lookup f10 = some ⟨oc10, od10, .func (PySem.W.fnOf "roots" "roots" (defArgs sRoots) (defBody sRoots) (defScope sRoots) .none kV10 dc10 pm10 an10 cd10 ct10), sl10⟩) (c10 : PySem.W.codeIn K cd10 "roots" = true) (k10 : PySem.W.keepIn K (.ref f10) = true)
    (a11 : PySem.W.nsIn K mainGlobals "middle" = some (some (.ref f11))) (l11 : K.lookup f11 = some ⟨oc11, od11, .func (PySem.W.fnOf "middle" "middle" (defArgs sMiddle) (defBody sMiddle) (defScope sMiddle) .none kV11 dc11 pm11 an11 cd11 ct11), sl11⟩) (c11 : PySem.W.codeIn K cd11 "middle" = true) (k11 : PySem.W.keepIn K (.ref f11) = true)
    (a12 : PySem.W.nsIn K mainGlobals "halved" = some (some (.ref f12))) (l12 : K.lookup f12 = some ⟨oc12, od12, .func (PySem.W.fnOf "halved" "halved" (defArgs sHalved) (defBody sHalved) (defScope sHalved) .none kV12 dc12 pm12 an12 cd12 ct12), sl12⟩) (c12 : PySem.W.codeIn K cd12 "halved" = true) (k12 : PySem.W.keepIn K (.ref f12) = true)
    (a13 : PySem.W.nsIn K mainGlobals "spread" = some (some (.ref f13))) (l13 : K.lookup f13 = some ⟨oc13, od13, .func (PySem.W.fnOf "spread" "spread" (defArgs sSpread) (defBody sSpread) (defScope sSpread) .none kV13 dc13 pm13 an13 cd13 ct13), sl13⟩) (c13 : PySem.W.codeIn K cd13 "spread" = true) (k13 : PySem.W.keepIn K (.ref f13) = true)
    (a14 : PySem.W.nsIn K mainGlobals "leaves" = some (some (.ref f14))) (l14 : K.lookup f14 = some ⟨oc14, od14, .func (PySem.W.fnOf "leaves" "leaves" (defArgs sLeaves) (defBody sLeaves) (defScope sLeaves) .none kV14 dc14 pm14 an14 cd14 ct14), sl14⟩) (c14 : PySem.W.codeIn K cd14 "leaves" = true) (k14 : PySem.W.keepIn K (.ref f14) = true)
    (a15 : PySem.W.nsIn K mainGlobals "_law_bag" = some (some (.ref f15))) (l15 : K.lookup f15 = some ⟨oc15, od15, .func (PySem.W.fnOf "_law_bag" "_law_bag" (defArgs sBag) (defBody sBag) (defScope sBag) .none kV15 dc15 pm15 an15 cd15 ct15), sl15⟩) (c15 : PySem.W.codeIn K cd15 "_law_bag" = true) (k15 : PySem.W.keepIn K (.ref f15) = true)
    (a16 : PySem.W.nsIn K mainGlobals "_law_draw" = some (some (.ref f16))) (l16 : K.lookup f16 = some ⟨oc16, od16, .func (PySem.W.fnOf "_law_draw" "_law_draw" (defArgs sDraw) (defBody sDraw) (defScope sDraw) .none kV16 dc16 pm16 an16 cd16 ct16), sl16⟩) (c16 : PySem.W.codeIn K cd16 "_law_draw" = true) (k16 : PySem.W.keepIn K (.ref f16) = true)
    (a17 : PySem.W.nsIn K mainGlobals "_law_plan" = some (some (.ref f17))) (l17 : K.lookup f17 = some ⟨oc17, od17, .func (PySem.W.fnOf "_law_plan" "_law_plan" (defArgs sPlan) (defBody sPlan) (defScope sPlan) .none kV17 dc17 pm17 an17 cd17 ct17), sl17⟩) (c17 : PySem.W.codeIn K cd17 "_law_plan" = true) (k17 : PySem.W.keepIn K (.ref f17) = true)
    (a18 : PySem.W.nsIn K mainGlobals "_law_places" = some (some (.ref f18))) (l18 : K.lookup f18 = some ⟨oc18, od18, .func (PySem.W.fnOf "_law_places" "_law_places" (defArgs sPlaces) (defBody sPlaces) (defScope sPlaces) .none kV18 dc18 pm18 an18 cd18 ct18), sl18⟩) (c18 : PySem.W.codeIn K cd18 "_law_places" = true) (k18 : PySem.W.keepIn K (.ref f18) = true)
    (a19 : PySem.W.nsIn K mainGlobals "_law_corner" = some (some (.ref f19))) (l19 : K.lookup f19 = some ⟨oc19, od19, .func (PySem.W.fnOf "_law_corner" "_law_corner" (defArgs sCorner) (defBody sCorner) (defScope sCorner) .none kV19 dc19 pm19 an19 cd19 ct19), sl19⟩) (c19 : PySem.W.codeIn K cd19 "_law_corner" = true) (k19 : PySem.W.keepIn K (.ref f19) = true)
    (a20 : PySem.W.nsIn K mainGlobals "_law_cuts" = some (some (.ref f20))) (l20 : K.lookup f20 = some ⟨oc20, od20, .func (PySem.W.fnOf "_law_cuts" "_law_cuts" (defArgs sCuts) (defBody sCuts) (defScope sCuts) .none kV20 dc20 pm20 an20 cd20 ct20), sl20⟩) (c20 : PySem.W.codeIn K cd20 "_law_cuts" = true) (k20 : PySem.W.keepIn K (.ref f20) = true)
    (a21 : PySem.W.nsIn K mainGlobals "_law_in" = some (some (.ref f21))) (l21 : K.lookup f21 = some ⟨oc21, od21, .func (PySem.W.fnOf "_law_in" "_law_in" (defArgs sIn) (defBody sIn) (defScope sIn) .none kV21 dc21 pm21 an21 cd21 ct21), sl21⟩) (c21 : PySem.W.codeIn K cd21 "_law_in" = true) (k21 : PySem.W.keepIn K (.ref f21) = true)
    (a22 : PySem.W.nsIn K mainGlobals "_law_step" = some (some (.ref f22))) (l22 : K.lookup f22 = some ⟨oc22, od22, .func (PySem.W.fnOf "_law_step" "_law_step" (defArgs sStepL) (defBody sStepL) (defScope sStepL) .none kV22 dc22 pm22 an22 cd22 ct22), sl22⟩) (c22 : PySem.W.codeIn K cd22 "_law_step" = true) (k22 : PySem.W.keepIn K (.ref f22) = true)
    (a23 : PySem.W.nsIn K mainGlobals "_law_centre" = some (some (.ref f23))) (l23 : K.lookup f23 = some ⟨oc23, od23, .func (PySem.W.fnOf "_law_centre" "_law_centre" (defArgs sCentre) (defBody sCentre) (defScope sCentre) .none kV23 dc23 pm23 an23 cd23 ct23), sl23⟩) (c23 : PySem.W.codeIn K cd23 "_law_centre" = true) (k23 : PySem.W.keepIn K (.ref f23) = true)
    (a24 : PySem.W.nsIn K mainGlobals "_law_around" = some (some (.ref f24))) (l24 : K.lookup f24 = some ⟨oc24, od24, .func (PySem.W.fnOf "_law_around" "_law_around" (defArgs sAroundL) (defBody sAroundL) (defScope sAroundL) .none kV24 dc24 pm24 an24 cd24 ct24), sl24⟩) (c24 : PySem.W.codeIn K cd24 "_law_around" = true) (k24 : PySem.W.keepIn K (.ref f24) = true)
    (a25 : PySem.W.nsIn K mainGlobals "_law_ups" = some (some (.ref f25))) (l25 : K.lookup f25 = some ⟨oc25, od25, .func (PySem.W.fnOf "_law_ups" "_law_ups" (defArgs sUps) (defBody sUps) (defScope sUps) .none kV25 dc25 pm25 an25 cd25 ct25), sl25⟩) (c25 : PySem.W.codeIn K cd25 "_law_ups" = true) (k25 : PySem.W.keepIn K (.ref f25) = true)
    (a26 : PySem.W.nsIn K mainGlobals "_law_closed" = some (some (.ref f26))) (l26 : K.lookup f26 = some ⟨oc26, od26, .func (PySem.W.fnOf "_law_closed" "_law_closed" (defArgs sClosed) (defBody sClosed) (defScope sClosed) .none kV26 dc26 pm26 an26 cd26 ct26), sl26⟩) (c26 : PySem.W.codeIn K cd26 "_law_closed" = true) (k26 : PySem.W.keepIn K (.ref f26) = true)
    (a27 : PySem.W.nsIn K mainGlobals "_law_picks" = some (some (.ref f27))) (l27 : K.lookup f27 = some ⟨oc27, od27, .func (PySem.W.fnOf "_law_picks" "_law_picks" (defArgs sPicks) (defBody sPicks) (defScope sPicks) .none kV27 dc27 pm27 an27 cd27 ct27), sl27⟩) (c27 : PySem.W.codeIn K cd27 "_law_picks" = true) (k27 : PySem.W.keepIn K (.ref f27) = true)
    (a28 : PySem.W.nsIn K mainGlobals "_law_some" = some (some (.ref f28))) (l28 : K.lookup f28 = some ⟨oc28, od28, .func (PySem.W.fnOf "_law_some" "_law_some" (defArgs sSome) (defBody sSome) (defScope sSome) .none kV28 dc28 pm28 an28 cd28 ct28), sl28⟩) (c28 : PySem.W.codeIn K cd28 "_law_some" = true) (k28 : PySem.W.keepIn K (.ref f28) = true)
    (a29 : PySem.W.nsIn K mainGlobals "_law_mixed" = some (some (.ref f29))) (l29 : K.lookup f29 = some ⟨oc29, od29, .func (PySem.W.fnOf "_law_mixed" "_law_mixed" (defArgs sMixed) (defBody sMixed) (defScope sMixed) .none kV29 dc29 pm29 an29 cd29 ct29), sl29⟩) (c29 : PySem.W.codeIn K cd29 "_law_mixed" = true) (k29 : PySem.W.keepIn K (.ref f29) = true)
    (a30 : PySem.W.nsIn K mainGlobals "_law_corners_of" = some (some (.ref f30))) (l30 : K.lookup f30 = some ⟨oc30, od30, .func (PySem.W.fnOf "_law_corners_of" "_law_corners_of" (defArgs sCornersOf) (defBody sCornersOf) (defScope sCornersOf) .none kV30 dc30 pm30 an30 cd30 ct30), sl30⟩) (c30 : PySem.W.codeIn K cd30 "_law_corners_of" = true) (k30 : PySem.W.keepIn K (.ref f30) = true)
    (a31 : PySem.W.nsIn K mainGlobals "_law_cross" = some (some (.ref f31))) (l31 : K.lookup f31 = some ⟨oc31, od31, .func (PySem.W.fnOf "_law_cross" "_law_cross" (defArgs sCross) (defBody sCross) (defScope sCross) .none kV31 dc31 pm31 an31 cd31 ct31), sl31⟩) (c31 : PySem.W.codeIn K cd31 "_law_cross" = true) (k31 : PySem.W.keepIn K (.ref f31) = true)
    (a32 : PySem.W.nsIn K mainGlobals "_law_weigh" = some (some (.ref f32))) (l32 : K.lookup f32 = some ⟨oc32, od32, .func (PySem.W.fnOf "_law_weigh" "_law_weigh" (defArgs sWeigh) (defBody sWeigh) (defScope sWeigh) .none kV32 dc32 pm32 an32 cd32 ct32), sl32⟩) (c32 : PySem.W.codeIn K cd32 "_law_weigh" = true) (k32 : PySem.W.keepIn K (.ref f32) = true)
    (a33 : PySem.W.nsIn K mainGlobals "_law_between" = some (some (.ref f33))) (l33 : K.lookup f33 = some ⟨oc33, od33, .func (PySem.W.fnOf "_law_between" "_law_between" (defArgs sBetween) (defBody sBetween) (defScope sBetween) .none kV33 dc33 pm33 an33 cd33 ct33), sl33⟩) (c33 : PySem.W.codeIn K cd33 "_law_between" = true) (k33 : PySem.W.keepIn K (.ref f33) = true)
    (a34 : PySem.W.nsIn K mainGlobals "_law_side_clean" = some (some (.ref f34))) (l34 : K.lookup f34 = some ⟨oc34, od34, .func (PySem.W.fnOf "_law_side_clean" "_law_side_clean" (defArgs sSideClean) (defBody sSideClean) (defScope sSideClean) .none kV34 dc34 pm34 an34 cd34 ct34), sl34⟩) (c34 : PySem.W.codeIn K cd34 "_law_side_clean" = true) (k34 : PySem.W.keepIn K (.ref f34) = true)
    (a35 : PySem.W.nsIn K mainGlobals "law" = some (some (.ref f35))) (l35 : K.lookup f35 = some ⟨oc35, od35, .func (PySem.W.fnOf "law" "law" (defArgs sLaw) (defBody sLaw) (defScope sLaw) .none kV35 dc35 pm35 an35 cd35 ct35), sl35⟩) (c35 : PySem.W.codeIn K cd35 "law" = true) (k35 : PySem.W.keepIn K (.ref f35) = true)
    (aC : PySem.W.nsIn K mainGlobals "Mesh" = some (some (.ref C)))
    (a36 : PySem.W.findIn K (.ref C) "__init__" = some (some (.ref f36))) (i36 : PySem.W.isFn K (.ref f36) = true) (l36 : K.lookup f36 = some ⟨oc36, od36, .func (PySem.W.fnOf "__init__" "Mesh.__init__" (defArgs sInit) (defBody sInit) (defScope sInit) (.ref dT) kV36 dc36 pm36 an36 cd36 ct36), sl36⟩) (c36 : PySem.W.codeIn K cd36 "Mesh.__init__" = true) (k36 : PySem.W.keepIn K (.ref f36) = true)
    (a37 : PySem.W.findIn K (.ref C) "triangles" = some (some (.ref f37))) (i37 : PySem.W.isFn K (.ref f37) = true) (l37 : K.lookup f37 = some ⟨oc37, od37, .func (PySem.W.fnOf "triangles" "Mesh.triangles" (defArgs sTri) (defBody sTri) (defScope sTri) .none kV37 dc37 pm37 an37 cd37 ct37), sl37⟩) (c37 : PySem.W.codeIn K cd37 "Mesh.triangles" = true) (k37 : PySem.W.keepIn K (.ref f37) = true)
    (lT : K.lookup dT = some ⟨ocT, odT, .seq #[.ref eT] nT, slT⟩)
    (pg : PySem.W.plainGet K C Str.empty = true) (hd : PySem.W.hasDictIn K C = true) (po : PySem.W.plainOver K C = true) (sa : PySem.W.findIn K (.ref C) "__setattr__" = some (some (.builtin "object.__setattr__"))) (mk : PySem.W.makesIn K C = true) (kc : PySem.W.keepIn K (.ref C) = true)
    (n0 : PySem.W.findIn K (.ref C) "plan" = some none) (n1 : PySem.W.findIn K (.ref C) "there" = some none) (n2 : PySem.W.findIn K (.ref C) "parts" = some none)
    (z_len : PySem.W.nsIn K mainGlobals "len" = some none) (z_range : PySem.W.nsIn K mainGlobals "range" = some none) (z_sorted : PySem.W.nsIn K mainGlobals "sorted" = some none) (z_min : PySem.W.nsIn K mainGlobals "min" = some none) (z_max : PySem.W.nsIn K mainGlobals "max" = some none) (z_abs : PySem.W.nsIn K mainGlobals "abs" = some none) (z_list : PySem.W.nsIn K mainGlobals "list" = some none) :
    ∃ fd : FuncData, (∀ (s : Shared) (v : Value), BindsTo s fd ⟨[v], []⟩ [("_law_script", v)]) ∧ ∀ base : Heap, K.In base → base.Ns mainGlobals mg → FnOk l.prog w K mg base CX0 20 fa fd ["_law_script"] (spLaw K) := by
  have e := hfa.symm.trans (PySem.W.mg_of X G a35)
  cases e
  have m_len := PySem.W.mg_none_of X G z_len
  have m_range := PySem.W.mg_none_of X G z_range
  have m_sorted := PySem.W.mg_none_of X G z_sorted
  have m_min := PySem.W.mg_none_of X G z_min
  have m_max := PySem.W.mg_none_of X G z_max
  have m_abs := PySem.W.mg_none_of X G z_abs
  have m_list := PySem.W.mg_none_of X G z_list
  have F_lies_in := fun_mk (st := sLiesIn) l0 c0 k0
  have b_lies_in := F_lies_in.binds (ps := ["plan", "at"]) fun _ _ _ _ _ _ us hl => match us, hl with | [_, _], _ => rfl
  have h_lies_in := PySem.W.mg_of X G a0
  have F_placed := fun_mk (st := sPlaced) l1 c1 k1
  have b_placed := F_placed.binds (ps := ["plan", "at"]) fun _ _ _ _ _ _ us hl => match us, hl with | [_, _], _ => rfl
  have h_placed := PySem.W.mg_of X G a1
  have F_on_corner := fun_mk (st := sOnCorner) l2 c2 k2
  have b_on_corner := F_on_corner.binds (ps := ["plan", "at"]) fun _ _ _ _ _ _ us hl => match us, hl with | [_, _], _ => rfl
  have h_on_corner := PySem.W.mg_of X G a2
  have F_cut_only := fun_mk (st := sCutOnly) l3 c3 k3
  have b_cut_only := F_cut_only.binds (ps := ["plan", "at"]) fun _ _ _ _ _ _ us hl => match us, hl with | [_, _], _ => rfl
  have h_cut_only := PySem.W.mg_of X G a3
  have F_step := fun_mk (st := sStep) l4 c4 k4
  have b_step := F_step.binds (ps := ["plan", "at"]) fun _ _ _ _ _ _ us hl => match us, hl with | [_, _], _ => rfl
  have h_step := PySem.W.mg_of X G a4
  have F_around := fun_mk (st := sAround) l5 c5 k5
  have b_around := F_around.binds (ps := ["plan", "at"]) fun _ _ _ _ _ _ us hl => match us, hl with | [_, _], _ => rfl
  have h_around := PySem.W.mg_of X G a5
  have F_parents := fun_mk (st := sParents) l6 c6 k6
  have b_parents := F_parents.binds (ps := ["plan", "at"]) fun _ _ _ _ _ _ us hl => match us, hl with | [_, _], _ => rfl
  have h_parents := PySem.W.mg_of X G a6
  have F_noted := fun_mk (st := sNoted) l7 c7 k7
  have b_noted := F_noted.binds (ps := ["plan", "cuts"]) fun _ _ _ _ _ _ us hl => match us, hl with | [_, _], _ => rfl
  have h_noted := PySem.W.mg_of X G a7
  have F_crack := fun_mk (st := sCrack) l8 c8 k8
  have b_crack := F_crack.binds (ps := ["plan", "cuts"]) fun _ _ _ _ _ _ us hl => match us, hl with | [_, _], _ => rfl
  have h_crack := PySem.W.mg_of X G a8
  have F_roots_of := fun_mk (st := sRootsOf) l9 c9 k9
  have b_roots_of := F_roots_of.binds (ps := ["i", "j", "side"]) fun _ _ _ _ _ _ us hl => match us, hl with | [_, _, _], _ => rfl
  have h_roots_of := PySem.W.mg_of X G a9
  have F_roots := fun_mk (st := sRoots) l10 c10 k10
  have b_roots := F_roots.binds (ps := ["plan"]) fun _ _ _ _ _ _ us hl => match us, hl with | [_], _ => rfl
  have h_roots := PySem.W.mg_of X G a10
  have F_middle := fun_mk (st := sMiddle) l11 c11 k11
  have b_middle := F_middle.binds (ps := ["shape"]) fun _ _ _ _ _ _ us hl => match us, hl with | [_], _ => rfl
  have h_middle := PySem.W.mg_of X G a11
  have F_halved := fun_mk (st := sHalved) l12 c12 k12
  have b_halved := F_halved.binds (ps := ["shape"]) fun _ _ _ _ _ _ us hl => match us, hl with | [_], _ => rfl
  have h_halved := PySem.W.mg_of X G a12
  have F_spread := fun_mk (st := sSpread) l13 c13 k13
  have b_spread := F_spread.binds (ps := ["shape", "there", "found"]) fun _ _ _ _ _ _ us hl => match us, hl with | [_, _, _], _ => rfl
  have h_spread := PySem.W.mg_of X G a13
  have F_leaves := fun_mk (st := sLeaves) l14 c14 k14
  have b_leaves := F_leaves.binds (ps := ["plan", "there"]) fun _ _ _ _ _ _ us hl => match us, hl with | [_, _], _ => rfl
  have h_leaves := PySem.W.mg_of X G a14
  have F__law_bag := fun_mk (st := sBag) l15 c15 k15
  have b__law_bag := F__law_bag.binds (ps := ["_law_script"]) fun _ _ _ _ _ _ us hl => match us, hl with | [_], _ => rfl
  have h__law_bag := PySem.W.mg_of X G a15
  have F__law_draw := fun_mk (st := sDraw) l16 c16 k16
  have b__law_draw := F__law_draw.binds (ps := ["_law_bag_here", "_law_many"]) fun _ _ _ _ _ _ us hl => match us, hl with | [_, _], _ => rfl
  have h__law_draw := PySem.W.mg_of X G a16
  have F__law_plan := fun_mk (st := sPlan) l17 c17 k17
  have b__law_plan := F__law_plan.binds (ps := ["_law_bag_here"]) fun _ _ _ _ _ _ us hl => match us, hl with | [_], _ => rfl
  have h__law_plan := PySem.W.mg_of X G a17
  have F__law_places := fun_mk (st := sPlaces) l18 c18 k18
  have b__law_places := F__law_places.binds (ps := ["_law_plan_here"]) fun _ _ _ _ _ _ us hl => match us, hl with | [_], _ => rfl
  have h__law_places := PySem.W.mg_of X G a18
  have F__law_corner := fun_mk (st := sCorner) l19 c19 k19
  have b__law_corner := F__law_corner.binds (ps := ["_law_plan_here", "_law_at"]) fun _ _ _ _ _ _ us hl => match us, hl with | [_, _], _ => rfl
  have h__law_corner := PySem.W.mg_of X G a19
  have F__law_cuts := fun_mk (st := sCuts) l20 c20 k20
  have b__law_cuts := F__law_cuts.binds (ps := ["_law_plan_here"]) fun _ _ _ _ _ _ us hl => match us, hl with | [_], _ => rfl
  have h__law_cuts := PySem.W.mg_of X G a20
  have F__law_in := fun_mk (st := sIn) l21 c21 k21
  have b__law_in := F__law_in.binds (ps := ["_law_plan_here", "_law_at"]) fun _ _ _ _ _ _ us hl => match us, hl with | [_, _], _ => rfl
  have h__law_in := PySem.W.mg_of X G a21
  have F__law_step := fun_mk (st := sStepL) l22 c22 k22
  have b__law_step := F__law_step.binds (ps := ["_law_at"]) fun _ _ _ _ _ _ us hl => match us, hl with | [_], _ => rfl
  have h__law_step := PySem.W.mg_of X G a22
  have F__law_centre := fun_mk (st := sCentre) l23 c23 k23
  have b__law_centre := F__law_centre.binds (ps := ["_law_at"]) fun _ _ _ _ _ _ us hl => match us, hl with | [_], _ => rfl
  have h__law_centre := PySem.W.mg_of X G a23
  have F__law_around := fun_mk (st := sAroundL) l24 c24 k24
  have b__law_around := F__law_around.binds (ps := ["_law_at"]) fun _ _ _ _ _ _ us hl => match us, hl with | [_], _ => rfl
  have h__law_around := PySem.W.mg_of X G a24
  have F__law_ups := fun_mk (st := sUps) l25 c25 k25
  have b__law_ups := F__law_ups.binds (ps := ["_law_plan_here", "_law_at"]) fun _ _ _ _ _ _ us hl => match us, hl with | [_, _], _ => rfl
  have h__law_ups := PySem.W.mg_of X G a25
  have F__law_closed := fun_mk (st := sClosed) l26 c26 k26
  have b__law_closed := F__law_closed.binds (ps := ["_law_plan_here", "_law_some_here"]) fun _ _ _ _ _ _ us hl => match us, hl with | [_, _], _ => rfl
  have h__law_closed := PySem.W.mg_of X G a26
  have F__law_picks := fun_mk (st := sPicks) l27 c27 k27
  have b__law_picks := F__law_picks.binds (ps := ["_law_bag_here", "_law_plan_here"]) fun _ _ _ _ _ _ us hl => match us, hl with | [_, _], _ => rfl
  have h__law_picks := PySem.W.mg_of X G a27
  have F__law_some := fun_mk (st := sSome) l28 c28 k28
  have b__law_some := F__law_some.binds (ps := ["_law_bag_here", "_law_plan_here"]) fun _ _ _ _ _ _ us hl => match us, hl with | [_, _], _ => rfl
  have h__law_some := PySem.W.mg_of X G a28
  have F__law_mixed := fun_mk (st := sMixed) l29 c29 k29
  have b__law_mixed := F__law_mixed.binds (ps := ["_law_bag_here", "_law_row"]) fun _ _ _ _ _ _ us hl => match us, hl with | [_, _], _ => rfl
  have h__law_mixed := PySem.W.mg_of X G a29
  have F__law_corners_of := fun_mk (st := sCornersOf) l30 c30 k30
  have b__law_corners_of := F__law_corners_of.binds (ps := ["_law_shape"]) fun _ _ _ _ _ _ us hl => match us, hl with | [_], _ => rfl
  have h__law_corners_of := PySem.W.mg_of X G a30
  have F__law_cross := fun_mk (st := sCross) l31 c31 k31
  have b__law_cross := F__law_cross.binds (ps := ["_law_one", "_law_two", "_law_three"]) fun _ _ _ _ _ _ us hl => match us, hl with | [_, _, _], _ => rfl
  have h__law_cross := PySem.W.mg_of X G a31
  have F__law_weigh := fun_mk (st := sWeigh) l32 c32 k32
  have b__law_weigh := F__law_weigh.binds (ps := ["_law_shape", "_law_x", "_law_y", "_law_scale"]) fun _ _ _ _ _ _ us hl => match us, hl with | [_, _, _, _], _ => rfl
  have h__law_weigh := PySem.W.mg_of X G a32
  have F__law_between := fun_mk (st := sBetween) l33 c33 k33
  have b__law_between := F__law_between.binds (ps := ["_law_one", "_law_two", "_law_at"]) fun _ _ _ _ _ _ us hl => match us, hl with | [_, _, _], _ => rfl
  have h__law_between := PySem.W.mg_of X G a33
  have F__law_side_clean := fun_mk (st := sSideClean) l34 c34 k34
  have b__law_side_clean := F__law_side_clean.binds (ps := ["_law_one", "_law_two", "_law_spots"]) fun _ _ _ _ _ _ us hl => match us, hl with | [_, _, _], _ => rfl
  have h__law_side_clean := PySem.W.mg_of X G a34
  have F_law := fun_mk (st := sLaw) l35 c35 k35
  have cl : ClF K C := ⟨⟨pg, hd, po, sa⟩, n0, n1, n2⟩
  have hD : DflV K (.ref dT) [V.ref eT] := Or.inr ⟨List.cons_ne_nil _ _, dT, _, [Value.ref eT], nT, rfl, lT, rfl, .cons rfl .nil⟩
  have hK : KwdV K kV36 [] := Or.inl rfl
  have FD : FunD K "__init__" "Mesh.__init__" (defArgs sInit) (defBody sInit) (defScope sInit) [V.ref eT] [] f36 _ := ⟨⟨_, _, _, _, _, _, _, _, _, _, rfl, l36, c36, hD, hK⟩, k36⟩
  have FT := fun_mk (st := sTri) l37 c37 k37
  have bT := FT.binds (ps := ["self"]) fun _ _ _ _ _ _ us hl => match us, hl with | [_], _ => rfl
  obtain ⟨dsI, rI, bI⟩ := FD.binds1 (ps := ["self", "plan", "cuts"]) 3 1 (List.cons_ne_nil _ _) rfl fun _ _ _ _ _ _ _ us its h1 h2 => match us, its, h1, h2 with | [_, _, _], [_], _, _ => ⟨_, rfl, rfl⟩
  cases rI
  refine ⟨PySem.W.fnOf "law" "law" (defArgs sLaw) (defBody sLaw) (defScope sLaw) .none kV35 dc35 pm35 an35 cd35 ct35, fun s v => .of_eq rfl, fun base _ _ => ?_⟩
  have g_lies_in : Fn l.prog w K mg base 1 "lies_in" 2 (spD 2 RLies) := Fn.mk' F_lies_in (ok_lies F_lies_in ) h_lies_in b_lies_in
  have g_placed : Fn l.prog w K mg base 2 "placed" 2 (spD 2 RPlaced) := Fn.mk' F_placed (ok_placed F_placed g_lies_in) h_placed b_placed
  have g_on_corner : Fn l.prog w K mg base 1 "on_corner" 2 (spD 2 ROnC) := Fn.mk' F_on_corner (ok_onC F_on_corner ) h_on_corner b_on_corner
  have g_cut_only : Fn l.prog w K mg base 3 "cut_only" 2 (spD 2 RCutOnly) := Fn.mk' F_cut_only (ok_cutOnly F_cut_only g_placed g_on_corner) h_cut_only b_cut_only
  have g_step : Fn l.prog w K mg base 4 "step" 2 (spD 2 RStep) := Fn.mk' F_step (ok_step F_step g_cut_only) h_step b_step
  have g_around : Fn l.prog w K mg base 5 "around" 2 (spD 2 RAround) := Fn.mk' F_around (ok_around F_around g_step) h_around b_around
  have g_parents : Fn l.prog w K mg base 6 "parents" 2 (spD 2 RPars) := Fn.mk' F_parents (ok_parents F_parents g_around g_lies_in g_on_corner) h_parents b_parents
  have g_noted : Fn l.prog w K mg base 4 "noted" 2 (spD 2 RNoted) := Fn.mk' F_noted (ok_noted F_noted g_cut_only m_sorted) h_noted b_noted
  have g_crack : Fn l.prog w K mg base 7 "crack" 2 (spD 2 RCrack) := Fn.mk' F_crack (ok_crack F_crack g_noted g_parents) h_crack b_crack
  have g_roots_of : Fn l.prog w K mg base 1 "roots_of" 3 (spD 3 RRootsOf) := Fn.mk' F_roots_of (ok_rootsOf F_roots_of ) h_roots_of b_roots_of
  have g_roots : Fn l.prog w K mg base 2 "roots" 1 (spD 1 RRoots) := Fn.mk' F_roots (ok_roots F_roots g_roots_of m_range) h_roots b_roots
  have g_middle : Fn l.prog w K mg base 1 "middle" 1 (spD 1 RMid) := Fn.mk' F_middle (ok_middle F_middle ) h_middle b_middle
  have g_halved : Fn l.prog w K mg base 2 "halved" 1 (spD 1 RHalved) := Fn.mk' F_halved (ok_halved F_halved (middle_T (gM := g_middle))) h_halved b_halved
  have g_spread : Fn l.prog w K mg base 10 "spread" 3 (spM 3 (RSpread 7)) := Fn.mk' F_spread (ok_spread F_spread g_middle g_halved h_spread b_spread 7) h_spread b_spread
  have g_leaves : Fn l.prog w K mg base 11 "leaves" 2 (spD 2 RLeaves) := Fn.mk' F_leaves (ok_leaves F_leaves g_roots g_spread) h_leaves b_leaves
  have g__law_bag : Fn l.prog w K mg base 1 "_law_bag" 1 (spBag K) := Fn.mk' F__law_bag (ok_bag F__law_bag m_list) h__law_bag b__law_bag
  have g__law_draw : Fn l.prog w K mg base 1 "_law_draw" 2 (spM 2 RDraw) := Fn.mk' F__law_draw (ok_draw F__law_draw m_len) h__law_draw b__law_draw
  have g__law_plan : Fn l.prog w K mg base 2 "_law_plan" 1 (spM 1 RPlan) := Fn.mk' F__law_plan (ok_plan F__law_plan g__law_draw) h__law_plan b__law_plan
  have g__law_places : Fn l.prog w K mg base 1 "_law_places" 1 (spD 1 RPlaces) := Fn.mk' F__law_places (ok_places F__law_places m_range) h__law_places b__law_places
  have g__law_corner : Fn l.prog w K mg base 1 "_law_corner" 2 (spD 2 ROnC) := Fn.mk' F__law_corner (ok_corner F__law_corner ) h__law_corner b__law_corner
  have g__law_cuts : Fn l.prog w K mg base 2 "_law_cuts" 1 (spD 1 RCuts) := Fn.mk' F__law_cuts (ok_cuts F__law_cuts g__law_places g__law_corner) h__law_cuts b__law_cuts
  have g__law_in : Fn l.prog w K mg base 1 "_law_in" 2 (spD 2 RLies) := Fn.mk' F__law_in (ok_in F__law_in ) h__law_in b__law_in
  have g__law_step : Fn l.prog w K mg base 1 "_law_step" 1 (spD 1 RStepL) := Fn.mk' F__law_step (ok_stepL F__law_step ) h__law_step b__law_step
  have g__law_centre : Fn l.prog w K mg base 2 "_law_centre" 1 (spD 1 RCentre) := Fn.mk' F__law_centre (ok_centre F__law_centre g__law_step) h__law_centre b__law_centre
  have g__law_around : Fn l.prog w K mg base 3 "_law_around" 1 (spD 1 RAroundL) := Fn.mk' F__law_around (ok_aroundL F__law_around g__law_step g__law_centre) h__law_around b__law_around
  have g__law_ups : Fn l.prog w K mg base 4 "_law_ups" 2 (spD 2 RUps) := Fn.mk' F__law_ups (ok_ups F__law_ups g__law_around g__law_in g__law_corner) h__law_ups b__law_ups
  have g__law_closed : Fn l.prog w K mg base 5 "_law_closed" 2 (spD 2 RClosed) := Fn.mk' F__law_closed (ok_closed F__law_closed g__law_ups m_len m_list m_sorted) h__law_closed b__law_closed
  have g__law_picks : Fn l.prog w K mg base 3 "_law_picks" 2 (spM 2 RPicks) := Fn.mk' F__law_picks (ok_picks F__law_picks g__law_draw g__law_cuts m_len m_range) h__law_picks b__law_picks
  have g__law_some : Fn l.prog w K mg base 6 "_law_some" 2 (spM 2 RSome) := Fn.mk' F__law_some (ok_some F__law_some g__law_picks g__law_closed) h__law_some b__law_some
  have g__law_mixed : Fn l.prog w K mg base 2 "_law_mixed" 2 (spM 2 RMixed) := Fn.mk' F__law_mixed (ok_mixed F__law_mixed g__law_draw m_len m_list m_range) h__law_mixed b__law_mixed
  have g__law_corners_of : Fn l.prog w K mg base 1 "_law_corners_of" 1 (spD 1 RCorners) := Fn.mk' F__law_corners_of (ok_cornersOf F__law_corners_of ) h__law_corners_of b__law_corners_of
  have g__law_cross : Fn l.prog w K mg base 1 "_law_cross" 3 (spD 3 RCross) := Fn.mk' F__law_cross (ok_cross F__law_cross ) h__law_cross b__law_cross
  have g__law_weigh : Fn l.prog w K mg base 2 "_law_weigh" 4 (spD 4 RWeigh) := Fn.mk' F__law_weigh (ok_weigh F__law_weigh g__law_corners_of g__law_cross) h__law_weigh b__law_weigh
  have g__law_between : Fn l.prog w K mg base 2 "_law_between" 3 (spD 3 RBtw) := Fn.mk' F__law_between (ok_between F__law_between g__law_cross m_min m_max) h__law_between b__law_between
  have g__law_side_clean : Fn l.prog w K mg base 3 "_law_side_clean" 3 (spD 3 RSide) := Fn.mk' F__law_side_clean (ok_side F__law_side_clean g__law_between m_min m_max m_range) h__law_side_clean b__law_side_clean
  exact ok_law F_law math cl ⟨mk, a36, i36, kc⟩ (ok_init FD cl g_crack g_noted g_leaves) bI (PySem.W.mg_of X G aC) ⟨a37, i37, k37⟩ (ok_tri FT cl m_list) bT g__law_bag g__law_plan g__law_some g__law_mixed g__law_corners_of g__law_cross g__law_side_clean g__law_draw g__law_weigh g__law_places g__law_corner m_abs m_len m_min m_sorted
theorem walk {l : PySem.W.OpenLaw} {q : Program} {loose : List Str} {XP : (Str → Option Value) → Heap → Prop} {YP : World → Heap → Prop} {d : DefRec} {K : Params → PySem.W.Frag} (hn : l.most = some 63) (hdf : d.params.defaults = [])
    (hY : ∀ (w : World) (h : Heap), YP w h → (K w.params).In h)
    (F : ∀ (w : World) (mg : Str → Option Value) (fa : Addr) (h : Heap), (K w.params).In h → h.Ns mainGlobals mg → mg d.name = some (.ref fa) →
      ∃ fd : FuncData, (∀ (s : Shared) (u : Value), BindsTo s fd ⟨[u], []⟩ [("_law_script", u)]) ∧ ∀ base : Heap, (K w.params).In base → base.Ns mainGlobals mg → FnOk l.prog w (K w.params) mg base CX0 20 fa fd ["_law_script"] (spLaw (K w.params))) :
    PySem.W.WalkO q loose XP YP l.row.toRowW d [] (fun f vs => PySem.call f vs) :=
  L2.walk_of (n := 63) (k := 20) (x := "_law_script") (CX := fun _ => CX0) (sp := fun w => spLaw (K w.params)) hn (by decide) hdf ⟨rfl, by decide, by decide⟩ hY F (fun _ _ a ns hl _ hS => ⟨a, ns, rfl, hS, fun _ => rfl⟩) fun _ _ _ _ _ z => z
end Br
open PySem PySem.W PyProof.Rows
set_option maxRecDepth 100000 in
set_option maxHeartbeats 0 in
theorem PySem.Challenge.cw_braemantle_k29_whole_no_crack_holds : PySem.Challenge.rw_braemantle_k29_whole_no_crack.Holds := by
  w_on; o_law; k_head; (case hw => w_witness2)
  k_fill
  refine Br.walk (l := PySem.Challenge.rw_braemantle_k29_whole_no_crack) rfl rfl (fun w h Y => PySem.W.kIn_of Y) ?F
  case F =>
    intro w mg fa h KX G hmg
    refine' Br.all_mk Br.plain_menu KX G hmg ?a0 ?l0 ?c0 ?k0 ?a1 ?l1 ?c1 ?k1 ?a2 ?l2 ?c2 ?k2 ?a3 ?l3 ?c3 ?k3 ?a4 ?l4 ?c4 ?k4 ?a5 ?l5 ?c5 ?k5 ?a6 ?l6 ?c6 ?k6 ?a7 ?l7 ?c7 ?k7 ?a8 ?l8 ?c8 ?k8 ?a9 ?l9 ?c9 ?k9 ?a10 ?l10 ?c10 ?k10 ?a11 ?l11 ?c11 ?k11 ?a12 ?l12 ?c12 ?k12 ?a13 ?l13 ?c13 ?k13 ?a14 ?l14 ?c14 ?k14 ?a15 ?l15 ?c15 ?k15 ?a16 ?l16 ?c16 ?k16 ?a17 ?l17 ?c17 ?k17 ?a18 ?l18 ?c18 ?k18 ?a19 ?l19 ?c19 ?k19 ?a20 ?l20 ?c20 ?k20 ?a21 ?l21 ?c21 ?k21 ?a22 ?l22 ?c22 ?k22 ?a23 ?l23 ?c23 ?k23 ?a24 ?l24 ?c24 ?k24 ?a25 ?l25 ?c25 ?k25 ?a26 ?l26 ?c26 ?k26 ?a27 ?l27 ?c27 ?k27 ?a28 ?l28 ?c28 ?k28 ?a29 ?l29 ?c29 ?k29 ?a30 ?l30 ?c30 ?k30 ?a31 ?l31 ?c31 ?k31 ?a32 ?l32 ?c32 ?k32 ?a33 ?l33 ?c33 ?k33 ?a34 ?l34 ?c34 ?k34 ?a35 ?l35 ?c35 ?k35 ?aC ?a36 ?i36 ?l36 ?c36 ?k36 ?a37 ?i37 ?l37 ?c37 ?k37 ?lT ?pg ?hd ?po ?sa ?mk ?kc ?n0 ?n1 ?n2 ?z_len ?z_range ?z_sorted ?z_min ?z_max ?z_abs ?z_list
    (case a0 => k_is)
    (case l0 => k_is)
    (case c0 => k_is)
    (case k0 => k_is)
    (case a1 => k_is)
    (case l1 => k_is)
    (case c1 => k_is)
    (case k1 => k_is)
    (case a2 => k_is)
    (case l2 => k_is)
    (case c2 => k_is)
    (case k2 => k_is)
    (case a3 => k_is)
    (case l3 => k_is)
    (case c3 => k_is)
    (case k3 => k_is)
    (case a4 => k_is)
    (case l4 => k_is)
    (case c4 => k_is)
    (case k4 => k_is)
    (case a5 => k_is)
    (case l5 => k_is)
    (case c5 => k_is)
    (case k5 => k_is)
    (case a6 => k_is)
    (case l6 => k_is)
    (case c6 => k_is)
    (case k6 => k_is)
    (case a7 => k_is)
    (case l7 => k_is)
    (case c7 => k_is)
    (case k7 => k_is)
    (case a8 => k_is)
    (case l8 => k_is)
    (case c8 => k_is)
    (case k8 => k_is)
    (case a9 => k_is)
    (case l9 => k_is)
    (case c9 => k_is)
    (case k9 => k_is)
    (case a10 => k_is)
    (case l10 => k_is)
    (case c10 => k_is)
    (case k10 => k_is)
    (case a11 => k_is)
    (case l11 => k_is)
    (case c11 => k_is)
    (case k11 => k_is)
    (case a12 => k_is)
    (case l12 => k_is)
    (case c12 => k_is)
    (case k12 => k_is)
    (case a13 => k_is)
    (case l13 => k_is)
    (case c13 => k_is)
    (case k13 => k_is)
    (case a14 => k_is)
    (case l14 => k_is)
    (case c14 => k_is)
    (case k14 => k_is)
    (case a15 => k_is)
    (case l15 => k_is)
    (case c15 => k_is)
    (case k15 => k_is)
    (case a16 => k_is)
    (case l16 => k_is)
    (case c16 => k_is)
    (case k16 => k_is)
    (case a17 => k_is)
    (case l17 => k_is)
    (case c17 => k_is)
    (case k17 => k_is)
    (case a18 => k_is)
    (case l18 => k_is)
    (case c18 => k_is)
    (case k18 => k_is)
    (case a19 => k_is)
    (case l19 => k_is)
    (case c19 => k_is)
    (case k19 => k_is)
    (case a20 => k_is)
    (case l20 => k_is)
    (case c20 => k_is)
    (case k20 => k_is)
    (case a21 => k_is)
    (case l21 => k_is)
    (case c21 => k_is)
    (case k21 => k_is)
    (case a22 => k_is)
    (case l22 => k_is)
    (case c22 => k_is)
    (case k22 => k_is)
    (case a23 => k_is)
    (case l23 => k_is)
    (case c23 => k_is)
    (case k23 => k_is)
    (case a24 => k_is)
    (case l24 => k_is)
    (case c24 => k_is)
    (case k24 => k_is)
    (case a25 => k_is)
    (case l25 => k_is)
    (case c25 => k_is)
    (case k25 => k_is)
    (case a26 => k_is)
    (case l26 => k_is)
    (case c26 => k_is)
    (case k26 => k_is)
    (case a27 => k_is)
    (case l27 => k_is)
    (case c27 => k_is)
    (case k27 => k_is)
    (case a28 => k_is)
    (case l28 => k_is)
    (case c28 => k_is)
    (case k28 => k_is)
    (case a29 => k_is)
    (case l29 => k_is)
    (case c29 => k_is)
    (case k29 => k_is)
    (case a30 => k_is)
    (case l30 => k_is)
    (case c30 => k_is)
    (case k30 => k_is)
    (case a31 => k_is)
    (case l31 => k_is)
    (case c31 => k_is)
    (case k31 => k_is)
    (case a32 => k_is)
    (case l32 => k_is)
    (case c32 => k_is)
    (case k32 => k_is)
    (case a33 => k_is)
    (case l33 => k_is)
    (case c33 => k_is)
    (case k33 => k_is)
    (case a34 => k_is)
    (case l34 => k_is)
    (case c34 => k_is)
    (case k34 => k_is)
    (case a35 => k_is)
    (case l35 => k_is)
    (case c35 => k_is)
    (case k35 => k_is)
    (case aC => k_is)
    (case a36 => k_is)
    (case i36 => k_is)
    (case l36 => k_is)
    (case c36 => k_is)
    (case k36 => k_is)
    (case a37 => k_is)
    (case i37 => k_is)
    (case l37 => k_is)
    (case c37 => k_is)
    (case k37 => k_is)
    (case lT => k_is)
    (case pg => k_is)
    (case hd => k_is)
    (case po => k_is)
    (case sa => k_is)
    (case mk => k_is)
    (case kc => k_is)
    (case n0 => k_is)
    (case n1 => k_is)
    (case n2 => k_is)
    (case z_len => k_is)
    (case z_range => k_is)
    (case z_sorted => k_is)
    (case z_min => k_is)
    (case z_max => k_is)
    (case z_abs => k_is)
    (case z_list => k_is)
