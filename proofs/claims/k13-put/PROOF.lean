import PyProof.Rows.All
import KE.SortData
import KE.LtData
import KE.LtSeq
import HandS.TupSets
import KE.KeyNested
import HandS.SetBool
import HandS.Comp
import KE.GoesSet
import KE.KDictKeyed
import HandS.Dict
import HandS.List
import HandS.Call
import HandS.TupAny
import HandS.TupMul
import HandS.Zip0
import HandS.Iter
import HandS.SortKw
import HandS.DictTup
import HandS.Conv
import HandS.ListItems
import KE.KDictZip
import Wide.All
import OpenK.AllK
import Wide.FinOn
import HandS.ForMost
import HandS.IsInst
import HandS.Deep
import HandS.Wide
import HandS.Style
import HandS.Flow
import HandS.Zip
import HandS.Defaults
import HandS.Head0
import HandS.Head1
import HandS.Head2
import HandS.HeadEnd
import HandS.HeadHook1
import HandS.HeadHook2
import PySem.Challenge.RW_liftedworlds_k13_put
set_option Elab.async false
set_option linter.all false
set_option maxRecDepth 100000
set_option maxHeartbeats 4000000
set_option exponentiation.threshold 30000
/-! Cs1: sorted over any alike data, empty tuples among them. -/
namespace Cv
open PySem PySem.W PySem.Calls PyProof.Rows PySem.SeqAt
section
variable {prog : Program} {w : World} {A : Around} {E : Value → Shared → Prop} {s : Shared}
theorem go_if {α : Type} {M : Model} {c : Prop} [Decidable c] {x y : Sem α} {Q : α → Shared → Prop} (hc : c) (h : wpAny M A x Q E s) : wpAny M A (if c then x else y) Q E s := by
  rw [if_pos hc]
  exact h
theorem go_else {α : Type} {M : Model} {c : Prop} [Decidable c] {x y : Sem α} {Q : α → Shared → Prop} (hc : ¬ c) (h : wpAny M A y Q E s) : wpAny M A (if c then x else y) Q E s := by
  rw [if_neg hc]
  exact h
/-- what a tuple's own less-than answers on alike tuples -/
theorem ltOwn {xs ys : List PyData} {a b : Value} {as bs : List Addr} {Q : Bool → Shared → Prop} (ra : Reads s.heap a (.tuple xs) as) (rb : Reads s.heap b (.tuple ys) bs) (hal : alikeAll xs ys = true)
    (hu : A.units + min (PyData.tuple xs).depth (PyData.tuple ys).depth < cLine) (hq : Q (dataLt (.tuple xs) (.tuple ys)) s) : wpAny (model prog w) A (oneLt' true a b) Q E s := by
  cases ra with
  | @tuple l o vs n _ _ h1 h2 h3 h4 =>
    cases rb with
    | @tuple l' o' vs' n' _ _ k1 k2 k3 k4 =>
      have n1 : vs.size = xs.length := by simpa using ReadsAll.length _ _ _ h4
      have n2 : vs'.size = ys.length := by simpa using ReadsAll.length _ _ _ k4
      have e0 : dataLt (.tuple xs) (.tuple ys) = dataLt (.list xs) (.list ys) := rfl
      rw [e0, dataLt_list, ← firstLt_toks xs ys hal, ← n1, ← n2] at hq
      obtain ⟨c1, d1, t1, sl1⟩ := o
      obtain ⟨c2, d2, t2, sl2⟩ := o'
      simp only at h2 h3 k2 k3
      subst h2 h3 k2 k3
      rw [oneLt'_eq]
      simp only [if_true]
      refine wpAny_bind (wpAny_cRoomFor (room_here hu) ?_)
      refine wpAny_bind (wpAny_callSpecialIfBound?_slot (T := "tuple") ⟨_, h1, rfl⟩ F.slot_tuple_lt
        (call_meets F.slot_tuple_lt ⟨_, h1, rfl⟩ F.entry_tuple_lt (F.args_tuple_lt_2 _ _) (tuple_ltAt l l' vs vs' n n' d1 d2 sl1 sl2 (pairEq xs ys) (fun j => dataLt (xs.getD j .none) (ys.getD j .none)))
          ⟨h1, k1, fun j j1 j2 => ?_, fun j j1 j2 hj => ?_, ?_⟩))
      · have := eqAt_alikeAll xs ys A.in1 s vs.toList vs'.toList _ _ h4 k4 hal (room_in hu) j (by simpa using j1) (by simpa using j2)
        simpa using this
      · have := rcLt_alikeAll xs ys A.in1 s vs.toList vs'.toList _ _ h4 k4 hal (room_in hu) j (by simpa using j1) (by simpa using j2) hj
        simpa using this
      · exact wpAny_truthy_bool hq
def full : PyData → Bool
  | .tuple (_ :: _) => true
  | _ => false
/-- what each tuple begins with -/
theorem firsts : ∀ {vs : List Value} {ds : List PyData} {Q : List (Option Value) → Shared → Prop}, EachIs (fun v d => ∃ as, Reads s.heap v d as) vs ds → (∀ d ∈ ds, ∃ xs, d = .tuple xs) →
    (∀ fs : List (Option Value), fs.map (·.isSome) = ds.map full → Q fs s) → wpAny (model prog w) A (vs.mapM firstOfTuple') Q E s
  | [], [], Q, _, _, h => by rw [List.mapM_nil]; exact wpAny_pure (h [] rfl)
  | v :: vs, d :: ds, Q, .cons ⟨as, r⟩ t, ht, h => by
    obtain ⟨xs, rfl⟩ := ht d List.mem_cons_self
    rw [List.mapM_cons]
    refine wpAny_bind ?_
    cases r with
    | @tuple a o its n _ _ h1 h2 h3 h4 =>
      rw [kas_first_eq]
      refine wpAny_bind (Looks.here (show Looks (model prog w) s.heap (typeOf (.ref a)) o.cls from (Looks.ld h1).andThen .now) ?_)
      rw [h2, if_neg (by first | decide | simp)]
      refine wpAny_bind (listItems_at h1 h3 (wpAny_pure ?_))
      refine wpAny_bind (firsts (Q := fun bs s' => wpAny (model prog w) A (pure (its[0]? :: bs)) Q E s') t (fun d hd => ht d (List.mem_cons_of_mem _ hd)) fun fs hf => wpAny_pure (h _ ?_))
      have hl := SeqAt.ReadsAll.length _ _ _ h4
      rw [List.map_cons, List.map_cons, hf]
      congr 1
      cases xs with
      | nil =>
        have : its[0]? = none := by
          rw [Array.getElem?_eq_none_iff]
          simp at hl
          simp [hl]
        rw [this]
        rfl
      | cons x r =>
        have hp : 0 < its.size := by simp at hl; omega
        rw [Array.getElem?_eq_getElem hp]
        rfl
theorem ltAt_gen {ds : List PyData} (hal : AllAlike ds) (ht : ∀ d ∈ ds, ∃ xs, d = .tuple xs) (hu : ∀ d, d ∈ ds → A.units + d.depth < cLine) : H.LtAt prog w A s (dataKind s.heap ds) general' ∧ H.LtAt prog w A s (dataKind s.heap ds) oneType' := by
  have room : ∀ {d d' : PyData}, d ∈ ds → A.units + min d.depth d'.depth < cLine := fun {d d'} hd => Nat.lt_of_le_of_lt (Nat.add_le_add_left (Nat.min_le_left _ _) _) (hu d hd)
  constructor
  · intro E x y a b Q ha hb hq
    obtain ⟨d, as, hd, ra, rfl⟩ := dataKind_inv ha
    obtain ⟨d', as', hd', rb, rfl⟩ := dataKind_inv hb
    obtain ⟨xs, rfl⟩ := ht d hd
    have e : keyLt' general' x y = oneLt' false x y := rfl
    rw [e]
    exact oneLt_alike (fun q => nomatch q) ra rb (hal _ hd _ hd') (fun q => nomatch q) (room hd) hq
  · intro E x y a b Q ha hb hq
    obtain ⟨d, as, hd, ra, rfl⟩ := dataKind_inv ha
    obtain ⟨d', as', hd', rb, rfl⟩ := dataKind_inv hb
    obtain ⟨xs, rfl⟩ := ht d hd
    obtain ⟨ys, rfl⟩ := ht d' hd'
    rw [keyLt'_oneType]
    exact ltOwn ra rb (by simpa [alike] using hal _ hd _ hd') (room hd) hq
/-- alike data, no None, can be sorted -/
theorem sortsAny {vs : List Value} {ds : List PyData} (e : EachIs (fun v d => ∃ as, Reads s.heap v d as) vs ds) (hal : AllAlike ds) (hn : ∀ d ∈ ds, d ≠ .none) (hu : ∀ d, d ∈ ds → A.units + d.depth < cLine) : SortsAt prog w A s (dataKind s.heap ds) vs := by
  by_cases h1 : ∀ d, d ∈ ds → ∃ x r, d = .tuple (x :: r)
  · exact SortsAt.data e hal (.inl h1) hu
  by_cases h2 : ∀ d, d ∈ ds → ∀ xs, d ≠ .tuple xs
  · exact SortsAt.data e hal (.inr fun d hd => ⟨hn d hd, h2 d hd⟩) hu
  have h3 : ∀ d ∈ ds, ∃ xs, d = .tuple xs := by
    have ⟨d0, hd0⟩ : ∃ d, d ∈ ds ∧ ∃ xs, d = .tuple xs := Classical.byContradiction fun q => h2 fun d hd xs e => q ⟨d, hd, xs, e⟩
    obtain ⟨hd0, xs, rfl⟩ := hd0
    intro d hd
    have q := hal d hd _ hd0
    cases d with
    | tuple ys => exact ⟨ys, rfl⟩
    | _ => exact absurd q (by simp [alike])
  have h4 : (ds.map full).all id = false := by
    cases q : (ds.map full).all id with
    | false => rfl
    | true =>
      refine absurd (fun d hd => ?_) h1
      have := List.all_eq_true.mp q (full d) (List.mem_map_of_mem hd)
      obtain ⟨xs, rfl⟩ := h3 d hd
      cases xs with
      | nil => cases this
      | cons x r => exact ⟨x, r, rfl⟩
  obtain ⟨g1, g2⟩ := ltAt_gen (prog := prog) (w := w) (s := s) hal h3 hu
  have hk : ∀ v, v ∈ vs → ∃ a, (dataKind s.heap ds).keyOf v = some a := fun v hv => by
    obtain ⟨d, hd, as, r⟩ := e.left v hv
    exact ⟨_, dataKind_some hal hd r⟩
  have go : ∀ (kd : SortKind), kd = (if ((ds.map full)[0]?.getD false) = true then general' else oneType') → ∀ (E : Value → Shared → Prop) {Q : SortKind → Shared → Prop}, Q kd s → wpAny (model prog w) A (keyKind' vs.toArray) Q E s := by
    intro kd hkd E Q hq
    rw [kat_kind_eq, List.mapM_toArray, map_eq_pure_bind]
    refine wpAny_bind (wpAny_bind (firsts e h3 fun fs hf => wpAny_pure ?_))
    have a1 : ¬ (fs.toArray.all fun x => x.isSome) = true := by
      have : (fs.map (·.isSome)).all id = false := by rw [hf]; exact h4
      rw [List.all_map] at this
      simp only [List.all_toArray]
      intro z
      rw [show (fs.all fun x => x.isSome) = fs.all (id ∘ fun x => x.isSome) from rfl, this] at z
      cases z
    rw [if_neg a1]
    try refine wpAny_bind (wpAny_pure ?_)
    have a2 : (fs.toArray[0]?.bind id).isSome = ((ds.map full)[0]?.getD false) := by
      rw [← hf]
      cases fs with
      | nil => rfl
      | cons f r => cases f <;> rfl
    by_cases a3 : ((ds.map full)[0]?.getD false) = true
    · refine go_if (by rw [a2]; exact a3) ?_
      rw [if_pos a3] at hkd
      rw [hkd] at hq
      exact wpAny_pure hq
    · refine go_else (by rw [a2]; exact a3) ?_
      rw [if_neg a3] at hkd
      rw [hkd] at hq
      try refine wpAny_bind (wpAny_pure ?_)
      rw [oneTypeOnly'_eq, List.mapM_toArray, map_eq_pure_bind]
      refine wpAny_bind (wpAny_bind (wpAny_bind (kas_mapM (r := Value.type "tuple") _ (fun v hv Q' hq' => ?_) (wpAny_pure ?_))))
      · obtain ⟨d, hd, as, r⟩ := e.left v hv
        obtain ⟨xs, rfl⟩ := h3 d hd
        exact (looks_reads (M := model prog w) r).here hq'
      · have hne : vs ≠ [] := by
          intro z
          subst z
          cases e
          exact h1 fun d hd => nomatch hd
        have hall : ((vs.map fun _ => Value.type "tuple").toArray.all fun x => x == Value.type "tuple") = true := by
          simp only [List.all_toArray, List.all_map, List.all_eq_true]
          intro _ _
          rfl
        obtain ⟨v0, vr, rfl⟩ := List.exists_cons_of_ne_nil hne
        have h0 : (List.map (fun _ => Value.type "tuple") (v0 :: vr)).toArray[0]? = some (Value.type "tuple") := by simp
        rw [h0]
        simp only [hall, if_true]
        exact wpAny_pure (wpAny_pure hq)
  by_cases a3 : ((ds.map full)[0]?.getD false) = true
  · exact ⟨hk, general', g1, fun _ E Q hq => go _ (if_pos a3).symm E hq⟩
  · exact ⟨hk, oneType', g2, fun _ E Q hq => go _ (if_neg a3).symm E hq⟩
/-- sorted(xs), any alike data -/
theorem sorted_any {β : Type} {vs : List Value} {bs : List β} {enc : β → PyData} {R : Value → β → Prop} {l : Addr} {Q : Value → Shared → Prop} (hl : s.heap.IsList l vs.toArray) (e : EachIs R vs bs) (er : EachIs (fun v b => ∃ as, Reads s.heap v (enc b) as) vs bs) (hal : AllAlike (bs.map enc)) (hn : ∀ d ∈ bs.map enc, d ≠ .none) (hL : bs.length ≤ sizeLine)
    (hu : ∀ b, b ∈ bs → A.units + 2 + (enc b).depth < cLine) (h : ∀ out, out.length = bs.length → EachIs R out (bs.mergeSort (dataLe false enc)) → Q (.ref (s.heap.objs.size + 1)) { s with heap := sortedAll s.heap vs (List.toArray out) }) :
    wpAny (model prog w) A (call (.builtin "sorted") [.ref l]) Q E s := by
  have er' : EachIs (fun v b => ∃ as, Reads (sortingHeap (copyHeap s.heap vs) (s.heap.objs.size + 1) vs) v (enc b) as) vs bs := er.mono fun _ _ ⟨as, r⟩ => ⟨as, PyProof.Rows.Reads.keeps (fun _ _ => sorting_copy_old) r⟩
  refine sorted_vals hl (sortsAny (s := { s with heap := sortingHeap (copyHeap s.heap vs) (s.heap.objs.size + 1) vs }) (each_map (R := fun v d => ∃ as, Reads (sortingHeap (copyHeap s.heap vs) (s.heap.objs.size + 1) vs) v d as) enc er') hal hn (bound_map hu)) (by rw [e.length]; exact hL) ?_
  exact h _ (by rw [sortVals_length false rfl]; exact e.length) (sortVals_data false e er' hal)
end
end Cv

/-! Cs2: sets of nested tuples, of texts and numbers; small questions, the table's lines. -/
namespace Cv
open PySem PySem.Spec PyProof.Rows L2

/-- a member: the value, what it is -/
abbrev Ky := Value × NestedKey
structure KyAt (h : Heap) (p : Ky) : Prop where
  iz : NestedIs h p.2 p.1
  dp : p.2.depth ≤ 8
section
variable {h h' : Heap} {a : Addr} {p q : Ky}
theorem KyAt.keep (x : KyAt h p) (k : ∀ b o, h.get? b = some o → h'.get? b = some o) : KyAt h' p := ⟨NestedIs.at (fun b o _ _ e _ => k b o e) _ _ x.iz, x.dp⟩
/-- while a set alone changes -/
theorem KyAt.but {o : Obj} {es : Array (Int × Value)} {ep : Nat} {t : SetTable} (x : KyAt h p) (ho : h.get? a = some o) (hd : o.data = .set es ep t) (sb : Heap.SameBut a h h') : KyAt h' p := by
  refine ⟨NestedIs.at (fun b u vs n e c => ?_) _ _ x.iz, x.dp⟩
  have ne : b ≠ a := fun z => by
    rw [z, ho] at e
    rw [← Option.some.inj e, hd] at c
    exact nomatch c
  rw [sb.2 b ne]
  exact e
theorem KyAt.uni (x : KyAt h p) (y : KyAt h q) (e : p.1 = q.1) : p = q := by
  have z := x.iz
  rw [e] at z
  exact Prod.ext e (NestedIs.inj _ _ _ z y.iz)
end
section
variable {P : Program} {w : World} {A : Around} {E : Value → Shared → Prop} {s : Shared}
theorem ky_eq {p q : Ky} {Q : Bool → Shared → Prop} (x : KyAt s.heap p) (y : KyAt s.heap q) (hu : A.units + 8 < cLine) (h : Q (decide (p.2 = q.2)) s) : wpAny (model P w) A (eqBool p.1 q.1) Q E s := by
  have := x.dp
  refine eqAt_key p.2 q.2 A s _ _ x.iz y.iz (by omega) P w E Q ?_
  rw [← NestedKey.decide_eq]
  exact h
theorem ky_hash {p : Ky} {Q : Int → Shared → Prop} (x : KyAt s.heap p) (hu : A.units + 8 < cLine) (h : Q (p.2.hash w) { s with toks := s.toks + p.2.draws }) : wpAny (model P w) A (pyHash p.1) Q E s := by
  have := x.dp
  exact pyHash_key _ _ _ _ _ x.iz (by omega) h
theorem ky_quiet {p : Ky} {Q : Bool → Shared → Prop} (x : KyAt s.heap p) (h : Q true s) : wpAny (model P w) A (eqIsQuiet 8 p.1) Q E s := quiet_key _ _ _ _ x.iz x.dp A E Q h

theorem go_both {α : Type} {M : Model} {c : Prop} [Decidable c] {x y : Sem α} {Q : α → Shared → Prop} (hx : wpAny M A x Q E s) (hy : wpAny M A y Q E s) : wpAny M A (if c then x else y) Q E s := by
  split
  · exact hx
  · exact hy
/-- how a value of a key looks -/
theorem key_shape {h : Heap} {k : NestedKey} {v : Value} (x : NestedIs h k v) : v = .none ∨ (∃ b, v = .bool b) ∨ (∃ i t, v = .int i t) ∨ (∃ z t, v = .str z t) ∨ ∃ b o its n, v = .ref b ∧ h.get? b = some o ∧ o.cls = .type "tuple" ∧ o.data = .seq its n := by
  cases x with
  | none => exact .inl rfl
  | bool _ => exact .inr (.inl ⟨_, rfl⟩)
  | int i t => exact .inr (.inr (.inl ⟨i, t, rfl⟩))
  | text z t => exact .inr (.inr (.inr (.inl ⟨z, t, rfl⟩)))
  | tup h1 h2 h3 _ => exact .inr (.inr (.inr (.inr ⟨_, _, _, _, rfl, h1, h2, h3⟩)))
mutual
/-- no class statement stands behind it -/
theorem cls_no : ∀ (k : NestedKey) (n : Nat) (v : Value) (s : Shared) (Q : Bool → Shared → Prop), NestedIs s.heap k v → k.depth ≤ n → Q false s → wpAny (model P w) A (ofAClassStatement n v) Q E s
  | .none, n, v, s, Q, x, _, h => by cases x; cases n <;> exact wpAny_pure h
  | .num i, n, v, s, Q, x, _, h => by cases x <;> cases n <;> exact wpAny_pure h
  | .text z, n, v, s, Q, x, _, h => by cases x; cases n <;> exact wpAny_pure h
  | .tup ks, n, v, s, Q, x, d, h => by
    cases x with
    | @tup b o its m _ h1 h2 h3 h4 =>
      cases n with
      | zero => simp only [NestedKey.depth] at d; omega
      | succ n =>
        simp only [NestedKey.depth] at d
        unfold ofAClassStatement
        refine wpAny_bind (wpAny_typeOf (T := "tuple") ⟨o, h1, h2⟩ ?_)
        dsimp only
        have z : (("tuple" : String) == "tuple") = true := by decide
        simp only [z, if_true, Bool.not_true, Bool.false_eq_true, if_false]
        try refine wpAny_bind (wpAny_pure ?_)
        try simp only [Bool.not_true, Bool.false_eq_true, if_false]
        show wpAny _ _ (seqItems? (.ref b) >>= _) _ _ s
        refine wpAny_bind (wpAny_seqItems h1 h3 (wpAny_bind ?_))
        show wpAny _ _ (forIn its _ _) _ _ s
        rw [← Array.forIn_toList]
        refine cls_nos ks n its.toList s _ h4 (by omega) ?_
        exact wpAny_pure h
theorem cls_nos : ∀ (ks : List NestedKey) (n : Nat) (vs : List Value) (s : Shared) (Q : Option Bool × Unit → Shared → Prop), NestedAll s.heap ks vs → NestedKey.depthAll ks ≤ n → Q (none, ()) s →
    wpAny (model P w) A (forIn vs ((none, ()) : Option Bool × Unit) fun y _ => do
      if (← ofAClassStatement n y) = true then pure (ForInStep.done (some true, ())) else pure (ForInStep.yield (none, ()))) Q E s
  | [], n, vs, s, Q, x, _, h => by cases x; rw [List.forIn_nil]; exact wpAny_pure h
  | k :: ks, n, vs, s, Q, x, d, h => by
    cases x with
    | cons x1 x2 =>
      simp only [NestedKey.depthAll] at d
      rw [List.forIn_cons]
      refine wpAny_bind (wpAny_bind (cls_no k n _ s _ x1 (by omega) ?_))
      simp only [Bool.false_eq_true, if_false]
      refine wpAny_pure ?_
      exact cls_nos ks n _ s Q x2 (by omega) h
end

mutual
/-- whether a hash hangs on the value alone: some answer -/
theorem hbv_any : ∀ (k : NestedKey) (n : Nat) (v : Value) (s : Shared) (Q : Bool → Shared → Prop), NestedIs s.heap k v → (∀ b, Q b s) → wpAny (model P w) A (hashByValue n v) Q E s
  | .none, n, v, s, Q, x, h => by cases x; cases n <;> exact wpAny_pure (h _)
  | .num i, n, v, s, Q, x, h => by cases x <;> cases n <;> exact wpAny_pure (h _)
  | .text z, n, v, s, Q, x, h => by cases x; cases n <;> exact wpAny_pure (h _)
  | .tup ks, n, v, s, Q, x, h => by
    cases x with
    | @tup b o its m _ h1 h2 h3 h4 =>
      cases n with
      | zero => exact wpAny_pure (h _)
      | succ n =>
        unfold hashByValue
        refine wpAny_bind (wpAny_specialOf (T := "tuple") ⟨o, h1, h2⟩ F.slot_tuple_hash.lookup ?_)
        show wpAny _ _ (seqItems? (.ref b) >>= _) _ _ s
        refine wpAny_bind (wpAny_seqItems h1 h3 (wpAny_bind ?_))
        show wpAny _ _ (forIn its _ _) _ _ s
        rw [← Array.forIn_toList]
        refine hbv_anys ks n its.toList s _ h4 (fun r => ?_)
        obtain ⟨r, u⟩ := r
        cases r <;> exact wpAny_pure (h _)
theorem hbv_anys : ∀ (ks : List NestedKey) (n : Nat) (vs : List Value) (s : Shared) (Q : Option Bool × Unit → Shared → Prop), NestedAll s.heap ks vs → (∀ r, Q r s) →
    wpAny (model P w) A (forIn vs ((none, ()) : Option Bool × Unit) fun y _ => do
      if (!(← hashByValue n y)) = true then pure (ForInStep.done (some false, ())) else pure (ForInStep.yield (none, ()))) Q E s
  | [], n, vs, s, Q, x, h => by cases x; rw [List.forIn_nil]; exact wpAny_pure (h _)
  | k :: ks, n, vs, s, Q, x, h => by
    cases x with
    | cons x1 x2 =>
      rw [List.forIn_cons]
      refine wpAny_bind (wpAny_bind (hbv_any k n _ s _ x1 fun b => ?_))
      cases b with
      | true =>
        simp only [Bool.not_true, Bool.false_eq_true, if_false]
        exact wpAny_pure (hbv_anys ks n _ s Q x2 h)
      | false =>
        simp only [Bool.not_false, if_true]
        exact wpAny_pure (wpAny_pure (h _))
end
/-- a search among keys shows nothing -/
theorem seen_no {p : Ky} (x : KyAt s.heap p) : ∀ (l : List Value) (Q : Bool → Shared → Prop), (∀ v ∈ l, ∃ q : Ky, q.1 = v ∧ KyAt s.heap q) → Q false s → wpAny (model P w) A (searchCouldBeSeen p.1 l) Q E s := by
  intro l Q hl h
  unfold searchCouldBeSeen
  refine wpAny_bind ?_
  refine wpAny_forIn_list _ (fun rest r s' => r.1 = none ∧ s' = s ∧ ∀ v ∈ rest, ∃ q : Ky, q.1 = v ∧ KyAt s.heap q) _ ?_ ?_ _ _ ⟨rfl, rfl, hl⟩
  · rintro v rest ⟨r1, r2⟩ s' ⟨hr, rfl, al⟩
    obtain ⟨q, rfl, y⟩ := al v List.mem_cons_self
    have al' : ∀ v ∈ rest, ∃ q : Ky, q.1 = v ∧ KyAt s'.heap q := fun u hu => al u (List.mem_cons_of_mem _ hu)
    dsimp only
    refine go_both (wpAny_pure ⟨rfl, rfl, al'⟩) ?_
    refine wpAny_bind (ky_quiet x ?_)
    simp only [Bool.not_true, Bool.false_eq_true, if_false]
    refine wpAny_bind (ky_quiet y ?_)
    simp only [Bool.not_true, Bool.false_eq_true, if_false]
    refine wpAny_bind (cls_no _ _ _ _ _ x.iz x.dp ?_)
    simp only [Bool.false_eq_true, if_false]
    refine wpAny_bind (cls_no _ _ _ _ _ y.iz y.dp ?_)
    simp only [Bool.false_eq_true, if_false]
    exact wpAny_pure ⟨rfl, rfl, al'⟩
  · rintro ⟨r1, r2⟩ s' ⟨hr, rfl, _⟩
    cases hr
    exact wpAny_pure h
end
end Cv

/-! Cs3: a set of nested tuples: the search, the adding. -/
namespace Cv
open PySem PySem.Spec PyProof.Rows L2

def rwK (w : World) (L : List Ky) : List (Int × Value) := L.map fun p => (p.2.hash w, p.1)
def hsK (w : World) (L : List Ky) : List Int := L.map fun p => p.2.hash w
theorem rwK_len (w : World) (L : List Ky) : (rwK w L).length = L.length := List.length_map ..
theorem hsK_len (w : World) (L : List Ky) : (hsK w L).length = L.length := List.length_map ..
/-- what holds of each set: its lines, its table -/
structure SetN (w : World) (h : Heap) (a : Addr) (L : List Ky) (es : Array (Int × Value)) (ep : Nat) (t : SetTable) : Prop where
  ob : ∃ o, h.get? a = some o ∧ o.ExactSet ∧ o.data = .set es ep t
  lines : es.toList = rwK w L
  nd : (L.map (·.2)).Nodup
  ris : Ris t.place.toList
  fit : t.fits es.size = true
  led : w.params.followText "set-order" = true ∨ t.led = true
/-- laid by places: tuples -/
structure Sl8 (w : World) (L : List Ky) (t : SetTable) : Prop where
  refs : ∀ p ∈ L, ∃ b, p.1 = .ref b
  tab : TabOk t (hsK w L)
  room : L.length * 5 < t.mask * 3
  few : L.length ≤ 76
section
variable {w : World} {h : Heap} {a : Addr} {L : List Ky} {es : Array (Int × Value)} {ep : Nat} {t : SetTable}
theorem SetN.size (R : SetN w h a L es ep t) : es.size = L.length := by
  rw [← Array.length_toList, R.lines, rwK_len]
theorem SetN.line (R : SetN w h a L es ep t) {i : Nat} {p : Ky} (e : L[i]? = some p) : es[i]? = some (p.2.hash w, p.1) := by
  have : es.toList[i]? = some (p.2.hash w, p.1) := by
    rw [R.lines]
    unfold rwK
    rw [List.getElem?_map, e]
    rfl
  rw [← this, Array.getElem?_toList]
theorem Sl8.fits (S : Sl8 w L t) (e : es.size = L.length) : t.fits es.size = true := by
  have h1 := S.tab.sz
  rw [hsK_len] at h1
  have h2 := S.room
  unfold SetTable.fits SetTable.fill
  rw [S.tab.dm, Bool.and_eq_true, beq_iff_eq, decide_eq_true_eq]
  exact ⟨by rw [h1, e], by show t.place.size + 0 ≤ t.mask; omega⟩
theorem Sl8.odd (S : Sl8 w L t) : ¬ t.gaveWay = true := by
  intro z
  unfold SetTable.gaveWay at z
  rw [mask_odd S.tab.mok] at z
  cases z
end
/-- the c-th place that a search looks at -/
abbrev prK (m : Nat) (h : Int) (c : Nat) : SetTable.Probe := nth m (runAt m (SetTable.bits h % (m + 1)) (SetTable.bits h)) c
theorem prK_add (m : Nat) (h : Int) (c q : Nat) : nth m (prK m h c) q = prK m h (c + q) := (nth_add m c _ q).symm
theorem nth_dm (m : Nat) : ∀ (c : Nat) (p : SetTable.Probe), p.dummy = none → (nth m p c).dummy = none
  | 0, _, e => e
  | c + 1, p, e => nth_dm m c (adv m p) (by unfold adv; split <;> exact e)
theorem prK_dm (m : Nat) (h : Int) (c : Nat) : (prK m h c).dummy = none := nth_dm m c _ rfl
section
variable {P : Program} {w : World} {A : Around} {E : Value → Shared → Prop} {s : Shared} {a : Addr} {L : List Ky} {es : Array (Int × Value)} {ep : Nat} {t : SetTable}

/-- one looked at -/
theorem look_at (R : SetN w s.heap a L es ep t) (S : Sl8 w L t) (al : ∀ p ∈ L, KyAt s.heap p) {x : Ky} (hx : KyAt s.heap x) (hu : A.units + 8 < cLine) {i j : Nat} {p : Ky} {fuel : Nat} {nx : SetTable.Probe} {Q : SetFound → Shared → Prop}
    (hp : L[i]? = some p) (hj : t.place.toList[i]? = some j) (yes : p.2 = x.2 → Q (.there none) s) (no : p.2 ≠ x.2 → wpAny (model P w) A (setSearchFrom a x.1 (x.2.hash w) true fuel (some nx)) Q E s) :
    wpAny (model P w) A (searchRest a x.1 (x.2.hash w) true fuel es t j i nx) Q E s := by
  obtain ⟨o, ho, _, hd⟩ := R.ob
  have hm : p ∈ L := List.mem_of_getElem? hp
  obtain ⟨b, hb⟩ := S.refs p hm
  unfold searchRest
  rw [R.line hp]
  dsimp only
  refine wpAny_bind (wpAny_holding (ky_eq (al p hm) hx hu (wpAny_bind (wpAny_setState_of ho hd R.fit ?_))))
  dsimp only
  by_cases e : p.2 = x.2
  · refine L2.wp_if_pos (by rw [decide_eq_true e]; rfl) (wpAny_pure (yes e))
  · have d : decide (p.2 = x.2) = false := decide_eq_false e
    refine L2.wp_if_neg (by rw [d]; simp) ?_
    try refine wpAny_bind (wpAny_pure ?_)
    rw [sameMem]
    simp only [if_true, slot_live R.ris hj, R.line hp]
    rw [hb]
    refine wpAny_bind (wpAny_isSame_ref_self (wpAny_bind (wpAny_pure ?_)))
    simp only [if_true]
    refine L2.wp_if_neg (by rw [d]; simp) ?_
    exact no e

/-- a search from the c-th place on: K the first that is free -/
theorem search_go (R : SetN w s.heap a L es ep t) (S : Sl8 w L t) (al : ∀ p ∈ L, KyAt s.heap p) {x : Ky} (hx : KyAt s.heap x) (hu : A.units + 8 < cLine) {K : Nat} (kf : K < 10 * SetTable.turns t.mask)
    (free : way t.mask (x.2.hash w) K ∉ t.place.toList) (taken : ∀ c, c < K → way t.mask (x.2.hash w) c ∈ t.place.toList) {Q : SetFound → Shared → Prop}
    (yes : x.2 ∈ L.map (·.2) → Q (.there none) s) (no : x.2 ∉ L.map (·.2) → Q (.free (way t.mask (x.2.hash w) K) false) s) :
    ∀ (f c : Nat) (st : Option SetTable.Probe), st.getD (t.probeStart (x.2.hash w)) = prK t.mask (x.2.hash w) c → c ≤ K → K < c + f →
      (∀ (i : Nat) p, L[i]? = some p → p.2 = x.2 → ∃ c', c ≤ c' ∧ c' < K ∧ t.place.toList[i]? = some (way t.mask (x.2.hash w) c')) →
      wpAny (model P w) A (setSearchFrom a x.1 (x.2.hash w) true f st) Q E s
  | 0, c, st, _, h1, h2, _ => by omega
  | f + 1, c, st, e0, h1, h2, rest => by
    obtain ⟨o, ho, _, hd⟩ := R.ob
    rw [setSearchFrom_succ]
    refine wpAny_bind (wpAny_setState_of ho hd R.fit ?_)
    dsimp only
    refine L2.wp_if_neg S.odd ?_
    try refine wpAny_bind (wpAny_pure ?_)
    have jj : ∀ q, (nth t.mask (prK t.mask (x.2.hash w) c) q).j = way t.mask (x.2.hash w) (c + q) := fun q => congrArg SetTable.Probe.j (prK_add t.mask (x.2.hash w) c q)
    have eK : c + (K - c) = K := by omega
    have hash_at : ∀ (i : Nat) p, L[i]? = some p → ((es[i]?.map (·.1)).getD 0) = p.2.hash w := fun i p hp => by rw [R.line hp]; rfl
    rcases go_spec t R.ris S.tab.dm (fun i => (es[i]?.map (·.1)).getD 0) (x.2.hash w) (10 * SetTable.turns t.mask) (K - c) (prK t.mask (x.2.hash w) c) (prK_dm ..) (by omega)
        (fun q hq => by rw [jj]; exact taken _ (by omega)) (by rw [jj, eK]; exact free) with ⟨q, i, a1, a2, a3, a4, a5⟩ | ⟨b1, b2⟩
    · have z : t.probe (fun i => (es[i]?.map (·.1)).getD 0) (x.2.hash w) (st.getD (t.probeStart (x.2.hash w))) = some (.candidate (way t.mask (x.2.hash w) (c + q)) i (prK t.mask (x.2.hash w) (c + (q + 1)))) := by
        rw [e0, ← jj, ← prK_add]
        exact a5
      rw [z]
      dsimp only
      rw [jj] at a2
      have il : i < L.length := by
        have u := (List.getElem?_eq_some_iff.mp a2).1
        have v := S.tab.sz
        rw [hsK_len] at v
        rw [Array.length_toList, v] at u
        exact u
      have hp : L[i]? = some L[i] := List.getElem?_eq_getElem il
      have more : wpAny (model P w) A (searchRest a x.1 (x.2.hash w) true f es t (way t.mask (x.2.hash w) (c + q)) i (prK t.mask (x.2.hash w) (c + (q + 1)))) Q E s := by
        refine look_at R S al hx hu hp a2 (fun e => yes (e ▸ List.mem_map.mpr ⟨_, List.getElem_mem il, rfl⟩)) fun ne => ?_
        refine search_go R S al hx hu kf free taken yes no f (c + (q + 1)) _ rfl (by omega) (by omega) fun i' p' hp' e' => ?_
        obtain ⟨c', d1, d2, d3⟩ := rest i' p' hp' e'
        refine ⟨c', ?_, d2, d3⟩
        rcases Nat.lt_trichotomy c' (c + q) with y | y | y
        · refine absurd ((hash_at i' p' hp').trans (by rw [e'])) (a4 (c' - c) i' (by omega) ?_)
          rw [jj, show c + (c' - c) = c' by omega]
          exact d3
        · rw [y] at d3
          have u := (slot_live R.ris a2).symm.trans (slot_live R.ris d3)
          injection u with u
          subst u
          rw [hp] at hp'
          exact absurd (by rw [Option.some.inj hp']; exact e') ne
        · omega
      by_cases l : t.led = true
      · refine L2.wp_if_neg (by rw [l]; simp) ?_
        try refine wpAny_bind (wpAny_pure ?_)
        exact more
      · refine L2.wp_if_pos (by simpa using l) ?_
        refine wpAny_bind (seen_no hx _ _ (fun v hv => ?_) ?_)
        · obtain ⟨ln, m1, m2⟩ := List.mem_map.mp hv
          have m3 : ln ∈ es.toList := by
            have : ln ∈ es := by
              have := (Array.mem_toList_iff).mp m1
              exact (Array.mem_filter.mp this).1
            exact Array.mem_toList_iff.mpr this
          rw [R.lines] at m3
          obtain ⟨p, m4, m5⟩ := List.mem_map.mp m3
          exact ⟨p, by rw [← m2, ← m5], al p m4⟩
        · refine L2.wp_if_neg (by decide) ?_
          try refine wpAny_bind (wpAny_pure ?_)
          exact more
    · have z : t.probe (fun i => (es[i]?.map (·.1)).getD 0) (x.2.hash w) (st.getD (t.probeStart (x.2.hash w))) = some (.empty (way t.mask (x.2.hash w) K) none) := by
        rw [jj, eK] at b2
        rw [e0]
        exact b2
      rw [z]
      dsimp only
      refine wpAny_pure (no fun hm => ?_)
      obtain ⟨p, m1, m2⟩ := List.mem_map.mp hm
      obtain ⟨i, il, e⟩ := List.getElem_of_mem m1
      have hp : L[i]? = some p := by rw [List.getElem?_eq_getElem il, e]
      obtain ⟨c', d1, d2, d3⟩ := rest i p hp m2
      refine b1 (c' - c) i (by omega) ?_ ((hash_at i p hp).trans (by rw [m2]))
      rw [jj, show c + (c' - c) = c' by omega]
      exact d3
/-- the search that adding makes -/
theorem search_add (R : SetN w s.heap a L es ep t) (S : Sl8 w L t) (al : ∀ p ∈ L, KyAt s.heap p) {x : Ky} (hx : KyAt s.heap x) (hu : A.units + 8 < cLine) {Q : SetFound → Shared → Prop} (yes : x.2 ∈ L.map (·.2) → Q (.there none) s)
    (no : ∀ K, x.2 ∉ L.map (·.2) → way t.mask (x.2.hash w) K ∉ t.place.toList → (∀ c, c < K → way t.mask (x.2.hash w) c ∈ t.place.toList) → Q (.free (way t.mask (x.2.hash w) K) false) s) :
    wpAny (model P w) A (setSearch a x.1 (x.2.hash w) true) Q E s := by
  have rm := S.room
  obtain ⟨K, k1, k2, k3⟩ := S.tab.first (by rw [hsK_len]; omega) (x.2.hash w)
  have big : 10 * SetTable.turns t.mask ≤ 1420 := by
    unfold SetTable.turns
    rcases S.tab.mok with e | e | e <;> omega
  unfold setSearch
  refine search_go R S al hx hu k1 k2 k3 yes (fun n => no K n k2 k3) 100000 0 none rfl (Nat.zero_le _) (by omega) fun i p hp e => ?_
  have hi : (hsK w L)[i]? = some (x.2.hash w) := by
    unfold hsK
    rw [List.getElem?_map, hp, ← e]
    rfl
  have il : i < t.place.toList.length := by
    have u := (List.getElem?_eq_some_iff.mp hp).1
    have v := S.tab.sz
    rw [hsK_len] at v
    rw [Array.length_toList, v]
    exact u
  obtain ⟨c, d1, d2⟩ := S.tab.before k2 hi (List.getElem?_eq_getElem il)
  exact ⟨c, Nat.zero_le _, d1, by rw [List.getElem?_eq_getElem il, d2]⟩
end
end Cv

/-! Cs4: a set of nested tuples: laid anew, one put in. -/
namespace Cv
open PySem PySem.Spec PyProof.Rows L2
section
variable {P : Program} {w : World} {A : Around} {E : Value → Shared → Prop} {s : Shared} {a : Addr} {L : List Ky} {es : Array (Int × Value)} {ep : Nat} {t : SetTable}
theorem pick_all {α β : Type} (f : α → β) (l : List α) : ∀ (is : List Nat), (∀ i ∈ is, i < l.length) → is.filterMap (fun i => (l.map f)[i]?) = (is.filterMap fun i => l[i]?).map f
  | [], _ => rfl
  | i :: is, h => by
    have hi := h i List.mem_cons_self
    rw [List.filterMap_cons_some (b := f l[i]) (by rw [List.getElem?_map, List.getElem?_eq_getElem hi]; rfl), List.filterMap_cons_some (List.getElem?_eq_getElem hi), List.map_cons,
      pick_all f l is fun j hj => h j (List.mem_cons_of_mem _ hj)]
theorem pick_range {α : Type} : ∀ (l : List α), (List.range l.length).filterMap (fun i => l[i]?) = l
  | [] => rfl
  | x :: l => by
    rw [List.length_cons, List.range_succ_eq_map, List.filterMap_cons_some (f := fun i => (x :: l)[i]?) (a := 0) (b := x) rfl, List.filterMap_map]
    exact congrArg (x :: ·) (pick_range l)
/-- lines taken in another order -/
theorem order_k (L : List Ky) (es : Array (Int × Value)) (od : Array Nat) (e : es.toList = rwK w L) (pm : od.toList.Perm (List.range L.length)) :
    ∃ L', L'.Perm L ∧ (od.filterMap (es[·]?)).toList = rwK w L' ∧ hsK w L' = od.toList.map fun i => (es.map (·.1)).getD i 0 := by
  have lt : ∀ i ∈ od.toList, i < L.length := fun i hi => List.mem_range.mp (pm.mem_iff.mp hi)
  have ea : ∀ i : Nat, es[i]? = (rwK w L)[i]? := fun i => by rw [← e, Array.getElem?_toList]
  refine ⟨od.toList.filterMap fun i => L[i]?, ?_, ?_, ?_⟩
  · have := pm.filterMap fun i => L[i]?
    rw [pick_range] at this
    exact this
  · rw [Array.toList_filterMap]
    rw [show (fun i : Nat => es[i]?) = fun i => (rwK w L)[i]? from funext ea]
    exact pick_all _ L _ lt
  · have key : ∀ is : List Nat, (∀ i ∈ is, i < L.length) → hsK w (is.filterMap fun i => L[i]?) = is.map fun i => (es.map (·.1)).getD i 0 := by
      intro is
      induction is with
      | nil => intro _; rfl
      | cons i is ih =>
        intro h
        have hi := h i List.mem_cons_self
        rw [List.filterMap_cons_some (List.getElem?_eq_getElem hi), List.map_cons]
        have z : (es.map (·.1)).getD i 0 = (L[i]).2.hash w := by
          have : (es.map (·.1))[i]? = some ((L[i]).2.hash w) := by
            rw [Array.getElem?_map, ea]
            unfold rwK
            rw [List.getElem?_map, List.getElem?_eq_getElem hi]
            rfl
          simp [Array.getD_eq_getD_getElem?, this]
        rw [z, ← ih fun j hj => h j (List.mem_cons_of_mem _ hj)]
        rfl
    exact key _ lt
/-- what a table of tuples is behind an adding -/
structure SetT (w : World) (h : Heap) (a : Addr) (L : List Ky) (es : Array (Int × Value)) (ep : Nat) (t : SetTable) : Prop where
  n : SetN w h a L es ep t
  s : Sl8 w L t
theorem ks_all {h : Heap} {o : Obj} (ho : s.heap.get? a = some o) (hd : o.data = .set es ep t) (sb : Heap.SameBut a s.heap h) (al : ∀ p ∈ L, KyAt s.heap p) : ∀ p ∈ L, KyAt h p := fun p hp => (al p hp).but ho hd sb
/-- all laid anew in a greater table -/
theorem relay_k {o : Obj} {M wanted : Nat} (ho : s.heap.get? a = some o) (hx : o.ExactSet) (hd : o.data = .set es ep t) (e : es.toList = rwK w L) (fit : t.fits es.size = true) (nd : (L.map (·.2)).Nodup) (refs : ∀ p ∈ L, ∃ b, p.1 = .ref b)
    (led : w.params.followText "set-order" = true ∨ t.led = true) (few : L.length ≤ 76) (hw : SetTable.sizeAbove wanted = M + 1) (hM : MaskOk M) (rm : L.length * 5 < M * 3) {Q : Unit → Shared → Prop}
    (hQ : ∀ h' L' es' ep' t', Heap.SameBut a s.heap h' → SetT w h' a L' es' ep' t' → L'.Perm L → Q () { s with heap := h' }) : wpAny (model P w) A (setRelay a wanted) Q E s := by
  have sz : es.size = L.length := by rw [← Array.length_toList, e, rwK_len]
  have small : M ≤ 127 := by rcases hM with z | z | z <;> omega
  obtain ⟨t', od, r1, r2, r3, r4, r5, _, _⟩ := relaid_ok t (hs := es.map (·.1)) (wanted := wanted) (by rw [hw]; rfl) hM (by rw [Array.size_map, sz]; omega)
  rw [Array.size_map, sz] at r2
  obtain ⟨L', q1, q2, q3⟩ := order_k L es od e r2
  rw [← q3] at r3
  have sz' : (od.filterMap (es[·]?)).size = es.size := by rw [← Array.length_toList, q2, rwK_len, q1.length_eq, sz]
  rw [setRelay_eq]
  refine wpAny_bind (wpAny_setState_of ho hd fit ?_)
  dsimp only
  refine L2.wp_if_neg (by rw [hw, sizeLine_eq]; omega) ?_
  try refine wpAny_bind (wpAny_pure ?_)
  rw [r1]
  dsimp only
  refine wpAny_bind (L2.wp_if_neg (by rw [sz']; simp) ?_)
  try refine wpAny_bind (wpAny_pure ?_)
  refine wpAny_pure ?_
  dsimp only
  refine wpAny_storeSet_of ho hd ?_ (by rw [sz', sz, sizeLine_eq]; omega)
  have sb := Heap.SameBut.update s.heap a (Obj.putSet (od.filterMap (es[·]?)) t')
  have S : Sl8 w L' t' := ⟨fun p hp => refs p (q1.mem_iff.mp hp), r3, by rw [q1.length_eq, r4]; exact rm, by rw [q1.length_eq]; exact few⟩
  exact hQ _ L' _ _ t' sb ⟨⟨⟨_, store_at ho hd, hx, rfl⟩, q2, (q1.map (·.2)).nodup_iff.mpr nd, r3.ris, S.fits (by rw [sz', sz, q1.length_eq]), led.imp id fun z => by rw [r5]; exact z⟩, S⟩ q1
/-- one more -/
theorem add_k (R : SetT w s.heap a L es ep t) (al : ∀ p ∈ L, KyAt s.heap p) {x : Ky} {b : Addr} (hb : x.1 = .ref b) (hx : KyAt s.heap x) (hu : A.units + 8 < cLine) (few : x.2 ∉ L.map (·.2) → L.length < 76) {Q : Bool → Shared → Prop}
    (hQ : ∀ r h' L' es' ep' t', Heap.SameBut a s.heap h' → SetT w h' a L' es' ep' t' → (x.2 ∈ L.map (·.2) → L' = L) → (x.2 ∉ L.map (·.2) → L'.Perm (x :: L)) → Q r { s with heap := h' }) :
    wpAny (model P w) A (setAddHashed a x.1 (x.2.hash w)) Q E s := by
  obtain ⟨⟨⟨o, ho, hex, hd⟩, lines, nd, ris, fit, led⟩, S⟩ := id R
  have R' := R.n
  have sz := R'.size
  unfold setAddHashed
  refine wpAny_holding ?_
  rw [show (100000 : Nat) = 99999 + 1 from rfl, setAddHashedIn_succ]
  refine wpAny_bind (wpAny_setState_of ho hd fit ?_)
  dsimp only
  refine L2.wp_if_neg (by rw [hb]; simp [byScan, Value.scannable]) ?_
  try refine wpAny_bind (wpAny_pure ?_)
  refine wpAny_bind (search_add R' S al hx hu (fun m => ?_) fun K m k1 k2 => ?_)
  · dsimp only
    exact wpAny_pure (hQ false s.heap L es ep t (Heap.SameBut.refl a s.heap) R (fun _ => rfl) fun z => absurd m z)
  · dsimp only
    refine wpAny_bind (wpAny_setState_of ho hd fit ?_)
    dsimp only
    obtain ⟨q1, q2, q3, q4, q5, _, _, _, q9⟩ := S.tab.put k1 k2
    rw [hsK_len] at q2 q9
    have lns : (SetTable.insertAt es (SetTable.below t.place (way t.mask (x.2.hash w) K)) (x.2.hash w, x.1)).toList = rwK w (L.take (SetTable.below t.place (way t.mask (x.2.hash w) K)) ++ x :: L.drop (SetTable.below t.place (way t.mask (x.2.hash w) K))) := by
      rw [SetTable.toList_insertAt, lines]
      unfold rwK
      rw [List.map_append, List.map_cons, List.map_take, List.map_drop]
    have hss : hsK w (L.take (SetTable.below t.place (way t.mask (x.2.hash w) K)) ++ x :: L.drop (SetTable.below t.place (way t.mask (x.2.hash w) K))) = (hsK w L).take (SetTable.below t.place (way t.mask (x.2.hash w) K)) ++ x.2.hash w :: (hsK w L).drop (SetTable.below t.place (way t.mask (x.2.hash w) K)) := by
      unfold hsK
      rw [List.map_append, List.map_cons, List.map_take, List.map_drop]
    rw [← hss] at q3
    have pm := put_perm L (SetTable.below t.place (way t.mask (x.2.hash w) K)) x
    generalize t.put (way t.mask (x.2.hash w) K) = pt at q1 q3 q4 q5 q9 ⊢
    obtain ⟨t1, p⟩ := pt
    dsimp only at q1 q3 q4 q5 q9 ⊢
    subst q1
    generalize SetTable.insertAt es (SetTable.below t.place (way t.mask (x.2.hash w) K)) (x.2.hash w, x.1) = es1 at lns ⊢
    generalize L.take (SetTable.below t.place (way t.mask (x.2.hash w) K)) ++ x :: L.drop (SetTable.below t.place (way t.mask (x.2.hash w) K)) = L1 at lns pm q3
    have len1 : L1.length = L.length + 1 := pm.length_eq
    have few := few m
    have nd1 : (L1.map (·.2)).Nodup := (pm.map (·.2)).nodup_iff.mpr (List.nodup_cons.mpr ⟨m, nd⟩)
    have sz1 : es1.size = L.length + 1 := by rw [← Array.length_toList, lns, rwK_len, len1]
    have refs1 : ∀ p ∈ L1, ∃ b, p.1 = .ref b := fun p hp => by
      rcases List.mem_cons.mp (pm.mem_iff.mp hp) with z | z
      · exact ⟨b, by rw [z]; exact hb⟩
      · exact S.refs p z
    -- whatever its hash hangs on
    have fin : ∀ t2 : SetTable, t2.place = t1.place → t2.mask = t1.mask → t2.dummies = t1.dummies → t2.led = t1.led → wpAny (model P w) A (do
        storeSet a es1 t2
        if (!false && t2.tooFull) = true then do setRelay a (SetTable.grown (es.size + 1)); pure true
        else pure true) Q E s := fun t2 e1 e2 e3 e4 => by
      have T2 : TabOk t2 (hsK w L1) := by
        obtain ⟨u1, u2, u3, u4, u5, u6⟩ := q3
        exact ⟨by rw [e1]; exact u1, by rw [e3]; exact u2, by rw [e1]; exact u3, by rw [e2]; exact u4, by rw [e1, e2]; exact u5, by rw [e1, e2]; exact u6⟩
      have led2 : w.params.followText "set-order" = true ∨ t2.led = true := led.imp id fun z => by rw [e4, q5]; exact z
      have fill2 : t2.fill = L.length + 1 := by rw [← q9]; unfold SetTable.fill; rw [e1, e3]
      refine wpAny_bind (wpAny_storeSet_of ho hd ?_ (by rw [sz1, sizeLine_eq]; omega))
      have sb := Heap.SameBut.update s.heap a (Obj.putSet es1 t2)
      have ho1 := store_at (es' := es1) (t' := t2) ho hd
      generalize s.heap.update a (Obj.putSet es1 t2) = h1 at sb ho1 ⊢
      have fit2 : t2.fits es1.size = true := by
        have := T2.sz
        rw [hsK_len, len1] at this
        have rm := S.room
        unfold SetTable.fits
        rw [Bool.and_eq_true, beq_iff_eq, decide_eq_true_eq, fill2, sz1, this]
        rw [e2, q4]
        exact ⟨rfl, by omega⟩
      by_cases full : t2.tooFull = true
      · have big : (L.length + 1) * 5 ≥ t.mask * 3 := by
          unfold SetTable.tooFull at full
          rw [decide_eq_true_eq, fill2, e2, q4] at full
          exact full
        have rm := S.room
        refine L2.wp_if_pos (by rw [full]; rfl) ?_
        rw [sz]
        have go : ∀ M, SetTable.sizeAbove (SetTable.grown (L.length + 1)) = M + 1 → MaskOk M → (L.length + 1) * 5 < M * 3 → wpAny (model P w) A (do setRelay a (SetTable.grown (L.length + 1)); pure true) Q E { s with heap := h1 } := fun M g1 g2 g3 => by
          refine wpAny_bind (relay_k (s := { s with heap := h1 }) (L := L1) ho1 hex rfl lns fit2 nd1 refs1 led2 (by rw [len1]; omega) g1 g2 (by rw [len1]; exact g3) fun h2 L2 es2 ep2 t3 sb2 R2 pm2 => ?_)
          exact wpAny_pure (hQ true h2 L2 es2 ep2 t3 (sb.trans sb2) R2 (fun z => absurd z m) fun _ => pm2.trans pm)
        rcases S.tab.mok with z | z | z
        · have : L.length = 4 := by rw [z] at big rm; omega
          exact go 31 (by rw [this, size_20]) (.inr (.inl rfl)) (by omega)
        · have : L.length = 18 := by rw [z] at big rm; omega
          exact go 127 (by rw [this, size_76]) (.inr (.inr rfl)) (by omega)
        · rw [z] at big; omega
      · refine L2.wp_if_neg (by rw [Bool.eq_false_iff.mpr full]; simp) ?_
        refine wpAny_pure (hQ true h1 L1 es1 _ t2 sb ⟨⟨⟨_, ho1, hex, rfl⟩, lns, nd1, T2.ris, fit2, led2⟩, refs1, T2, ?_, by rw [len1]; omega⟩ (fun z => absurd z m) fun _ => pm)
        unfold SetTable.tooFull at full
        rw [decide_eq_true_eq, fill2] at full
        rw [len1]
        omega
    have both : ∀ byv : Bool, wpAny (model P w) A (do
        storeSet a es1 (if byv = true then t1 else { t1 with plain := false })
        if (!false && (if byv = true then t1 else { t1 with plain := false }).tooFull) = true then do setRelay a (SetTable.grown (es.size + 1)); pure true
        else pure true) Q E s := fun byv => by
      cases byv
      · exact fin { t1 with plain := false } rfl rfl rfl rfl
      · exact fin t1 rfl rfl rfl rfl
    by_cases pl : t1.plain = true
    · refine L2.wp_if_pos pl (wpAny_bind (hbv_any _ _ _ _ _ hx.iz fun byv => ?_))
      exact both byv
    · refine L2.wp_if_neg pl (wpAny_bind (wpAny_pure ?_))
      exact both true
end
end Cv

/-! Cs5: a set of texts, of numbers: one put in; any set. -/
namespace Cv
open PySem PySem.Spec PyProof.Rows L2
theorem perm_up {α β : Type} {f : α → β} : ∀ {l' : List β} {l : List α}, l'.Perm (l.map f) → ∃ m : List α, m.Perm l ∧ l' = m.map f
  | [], l, p => by
    have := p.length_eq
    rw [List.length_map] at this
    cases l with
    | nil => exact ⟨[], .nil, rfl⟩
    | cons => cases this
  | y :: l', l, p => by
    obtain ⟨x, hx, rfl⟩ := List.mem_map.mp (p.mem_iff.mp List.mem_cons_self)
    obtain ⟨u, v, rfl⟩ := List.append_of_mem hx
    have q : (f x :: l').Perm (f x :: (u ++ v).map f) := p.trans (by
      rw [List.map_append, List.map_cons, List.map_append]
      exact List.perm_middle)
    obtain ⟨m, m1, m2⟩ := perm_up q.cons_inv
    exact ⟨x :: m, (m1.cons x).trans List.perm_middle.symm, by rw [m2]; rfl⟩
def nkOf : Key → NestedKey
  | .inl i => .num i
  | .inr z => .text z
theorem nkOf_inj {a b : Key} (h : nkOf a = nkOf b) : a = b := by
  cases a <;> cases b <;> first | (injection h with h; rw [h]) | cases h
section
variable {P : Program} {w : World} {A : Around} {E : Value → Shared → Prop} {s : Shared} {a : Addr} {L : List Ky} {es : Array (Int × Value)} {ep : Nat} {t : SetTable}
/-- a text, a number -/
def KyS (p : Ky) : Prop := ∃ k : Key, keyIs k p.1 = true ∧ p.2 = nkOf k
theorem kyS_at {p : Ky} (x : KyS p) (h : Heap) : KyAt h p := by
  obtain ⟨k, h1, h2⟩ := x
  obtain ⟨v, n⟩ := p
  rcases keyIs_shape h1 with ⟨i, tk, rfl, e⟩ | ⟨z, tk, rfl, e⟩
  · cases e
    cases h2
    exact ⟨.int _ _, Nat.zero_le _⟩
  · cases e
    cases h2
    exact ⟨.text _ _, Nat.zero_le _⟩
theorem kyS_scan {p : Ky} (x : KyS p) : p.1.scannable = true := by
  obtain ⟨k, h1, _⟩ := x
  obtain ⟨v, n⟩ := p
  rcases keyIs_shape h1 with ⟨i, tk, rfl, e⟩ | ⟨z, tk, rfl, e⟩ <;> cases e <;> rfl
theorem kyS_hash {k : Key} (w : World) : (nkOf k).hash w = keyH w k := by cases k <;> rfl
structure Sc8 (L : List Ky) : Prop where
  keys : ∀ p ∈ L, KyS p
  few : L.length < 4000
theorem sc_elems (S : Sc8 L) : ElemsOf (mixKind P w) (rwK w L) := fun e he => by
  obtain ⟨p, hp, rfl⟩ := List.mem_map.mp he
  obtain ⟨k, h1, h2⟩ := S.keys p hp
  exact ⟨⟨k, h1, by rw [h2]; exact kyS_hash w⟩, kyS_scan ⟨k, h1, h2⟩⟩
structure SetS (w : World) (h : Heap) (a : Addr) (L : List Ky) (es : Array (Int × Value)) (ep : Nat) (t : SetTable) : Prop where
  n : SetN w h a L es ep t
  s : Sc8 L
/-- stored, and laid anew when it is too full -/
theorem tail_s {g : Bool → Sem Unit} (hg : ∀ (b : Bool) (s₁ : Shared) (Q' : Unit → Shared → Prop), Q' () s₁ → wpAny (model P w) A (g b) Q' E s₁) {o : Obj} (ho : s.heap.get? a = some o) (hx : o.ExactSet) (hd : o.data = .set es ep t)
    {es1 : Array (Int × Value)} {t2 : SetTable} {L1 : List Ky} (e1 : es1.toList = rwK w L1) (nd : (L1.map (·.2)).Nodup) (S : Sc8 L1) (fit : t2.fits es1.size = true) (ris : Ris t2.place.toList) (led : w.params.followText "set-order" = true ∨ t2.led = true)
    {wd : Bool} {R : Option Bool → Shared → Prop} (hR : ∀ h' L' es' ep' t', Heap.SameBut a s.heap h' → SetS w h' a L' es' ep' t' → L'.Perm L1 → R (some true) { s with heap := h' }) :
    wpAny (model P w) A (do
        storeSet a es1 t2
        if (!wd && t2.tooFull) = true then do
            g (relayAll t2 es1 (SetTable.grown es1.size)).2.2
            storeSet a (relayAll t2 es1 (SetTable.grown es1.size)).1 (relayAll t2 es1 (SetTable.grown es1.size)).2.1
            pure (some true)
          else pure (some true)) R E s := by
  have few := S.few
  have z1 : es1.size = L1.length := by rw [← Array.length_toList, e1, rwK_len]
  refine wpAny_bind (wpAny_storeSet_of ho hd ?_ (by rw [z1, sizeLine_eq]; omega))
  have ho1 := store_at (es' := es1) (t' := t2) ho hd
  have sb1 := Heap.SameBut.update s.heap a (Obj.putSet es1 t2)
  refine go_both ?_ (wpAny_pure (hR _ L1 es1 _ t2 sb1 ⟨⟨⟨_, ho1, hx, rfl⟩, e1, nd, ris, fit, led⟩, S⟩ (List.Perm.refl _)))
  have p0 := relayAll_perm t2 es1 (SetTable.grown es1.size)
  have p1 := relayAll_fits t2 es1 (SetTable.grown es1.size)
  have p2 := relayAll_ris t2 es1 (SetTable.grown es1.size)
  have p3 := relayAll_led t2 es1 (SetTable.grown es1.size)
  generalize relayAll t2 es1 (SetTable.grown es1.size) = Z at p0 p1 p2 p3 ⊢
  obtain ⟨es2, t3, gv⟩ := Z
  dsimp only at p0 p1 p2 p3 ⊢
  rw [e1] at p0
  obtain ⟨L2, m1, m2⟩ := perm_up p0
  have z2 : es2.size = es1.size := by
    have := p0.length_eq
    rw [rwK_len] at this
    rw [← Array.length_toList, this, z1]
  refine wpAny_bind (hg _ _ _ (wpAny_bind (wpAny_storeSet_of ho1 rfl ?_ (by rw [z2, z1, sizeLine_eq]; omega))))
  have ho2 := store_at (es' := es2) (t' := t3) ho1 rfl
  refine wpAny_pure (hR _ L2 es2 _ t3 (sb1.trans (Heap.SameBut.update _ a _)) ⟨⟨⟨_, ho2, hx, rfl⟩, m2, (m1.map (·.2)).nodup_iff.mpr nd, p2, p1, led.imp id fun z => by rw [p3]; exact z⟩, ⟨fun p hp => S.keys p (m1.mem_iff.mp hp), by rw [m1.length_eq]; exact few⟩⟩ m1)
theorem add_s (R : SetS w s.heap a L es ep t) {x : Ky} (hx : KyS x) (few : x.2 ∉ L.map (·.2) → L.length + 1 < 4000) {Q : Bool → Shared → Prop}
    (hQ : ∀ r h' L' es' ep' t', Heap.SameBut a s.heap h' → SetS w h' a L' es' ep' t' → (x.2 ∈ L.map (·.2) → L' = L) → (x.2 ∉ L.map (·.2) → L'.Perm (x :: L)) → Q r { s with heap := h' }) :
    wpAny (model P w) A (setAddHashed a x.1 (x.2.hash w)) Q E s := by
  obtain ⟨⟨⟨o, ho, hex, hd⟩, lines, nd, ris, fit, led⟩, S⟩ := id R
  have hsc := kyS_scan hx
  obtain ⟨k, k1, k2⟩ := id hx
  have sz : es.size = L.length := by rw [← Array.length_toList, lines, rwK_len]
  have hel : ElemsOf (mixKind P w) es.toList := by rw [lines]; exact sc_elems S
  have bd : scanBound = 4096 := rfl
  have eh : x.2.hash w = (mixKind P w).hash k := by rw [k2]; exact kyS_hash w
  rw [eh]
  unfold setAddHashed setAddHashedIn
  refine wpAny_holding (wpAny_bind (wpAny_setState_of ho hd fit ?_))
  dsimp only
  rw [byScan_of hsc (by have := S.few; rw [bd, sz]; omega) hel]
  simp only [↓reduceIte]
  unfold setAddByScan
  refine wpAny_bind (wpAny_bind (wpAny_rule (wpAny_bind (wpAny_setScan_of (knd := mixKind P w) k1 ho hd fit hel ?_))))
  cases fi : List.findIdx? (fun e => (mixKind P w).is k e.2) es.toList with
  | some j =>
    dsimp only
    obtain ⟨j1, j2, _⟩ := List.findIdx?_eq_some_iff_getElem.mp fi
    have m : x.2 ∈ L.map (·.2) := by
      have hj : es.toList[j] ∈ rwK w L := by rw [← lines]; exact List.getElem_mem j1
      obtain ⟨p, m1, m2⟩ := List.mem_map.mp hj
      rw [← m2] at j2
      obtain ⟨k', n1, n2⟩ := S.keys p m1
      have : k = k' := (mixKind P w).inj p.1 k k' j2 n1
      exact List.mem_map.mpr ⟨p, m1, by rw [n2, k2, this]⟩
    exact wpAny_pure (wpAny_pure (hQ false s.heap L es ep t (Heap.SameBut.refl a s.heap) R (fun _ => rfl) fun z => absurd m z))
  | none =>
    dsimp only
    have m : x.2 ∉ L.map (·.2) := fun z => by
      obtain ⟨p, m1, m2⟩ := List.mem_map.mp z
      obtain ⟨k', n1, n2⟩ := S.keys p m1
      have e : k' = k := nkOf_inj (by rw [← n2, m2, k2])
      have hm : (p.2.hash w, p.1) ∈ es.toList := by rw [lines]; exact List.mem_map.mpr ⟨p, m1, rfl⟩
      have c := List.findIdx?_eq_none_iff.mp fi _ hm
      rw [e] at n1
      exact absurd (show keyIs k p.1 = false from c) (by rw [n1]; decide)
    have gw : ∀ (b : Bool) {s₁ : Shared} {Q' : Unit → Shared → Prop}, Q' () s₁ → wpAny (model P w) A (match b with | true => rule "set.scan.the-table-gave-way" | false => pure ()) Q' E s₁ :=
      fun b s₁ Q' q => by cases b <;> first | exact wpAny_pure q | exact wpAny_rule q
    have p0 := layNew_perm t es ((mixKind P w).hash k) x.1
    have p1 := layNew_fits t es ((mixKind P w).hash k) x.1
    have p2 := layNew_ris t es ((mixKind P w).hash k) x.1 ris
    have p3 := layNew_led t es ((mixKind P w).hash k) x.1
    generalize layNew t es ((mixKind P w).hash k) x.1 = Z at p0 p1 p2 p3 ⊢
    obtain ⟨es1, t1, wd, gv⟩ := Z
    dsimp only at p0 p1 p2 p3 ⊢
    rw [Array.toList_push, lines, ← eh] at p0
    obtain ⟨L1, m1, m2⟩ := perm_up (f := fun p : Ky => (p.2.hash w, p.1)) (l' := es1.toList) (l := L ++ [x]) (by rw [List.map_append]; exact p0)
    have m3 : L1.Perm (x :: L) := m1.trans (List.perm_append_singleton _ _)
    have nd1 : (L1.map (·.2)).Nodup := (m3.map (·.2)).nodup_iff.mpr (List.nodup_cons.mpr ⟨m, nd⟩)
    have S1 : Sc8 L1 := ⟨fun p hp => by
      rcases List.mem_cons.mp (m3.mem_iff.mp hp) with z | z
      · rw [z]; exact hx
      · exact S.keys p z, by rw [m3.length_eq]; exact few m⟩
    have led1 : w.params.followText "set-order" = true ∨ t1.led = true := led.imp id fun z => by rw [p3]; exact z
    have fin : ∀ h' L' es' ep' t', Heap.SameBut a s.heap h' → SetS w h' a L' es' ep' t' → L'.Perm L1 → Q true { s with heap := h' } := fun h' L' es' ep' t' sb r pm => hQ true h' L' es' ep' t' sb r (fun z => absurd z m) fun _ => pm.trans m3
    refine wpAny_bind (gw _ ?_)
    split
    · refine wpAny_bind ?_
      rw [hashByValue_scannable 8 hsc]
      refine wpAny_pure ?_
      refine tail_s ?_ ho hex hd m2 nd1 S1 ?_ ?_ ?_ ?_
      · intro b s₁ Q' q; cases b <;> first | exact wpAny_pure q | exact wpAny_rule q
      · split
        · exact p1
        · exact SetTable.fits_plain_off p1
      · split <;> exact p2
      · split <;> exact led1
      · intro h' L' es' ep' t' sb r pm; dsimp only; exact wpAny_pure (fin h' L' es' ep' t' sb r pm)
    · refine wpAny_bind (wpAny_pure ?_)
      simp only [↓reduceIte]
      refine tail_s ?_ ho hex hd m2 nd1 S1 p1 p2 led1 ?_
      · intro b s₁ Q' q; cases b <;> first | exact wpAny_pure q | exact wpAny_rule q
      · intro h' L' es' ep' t' sb r pm; dsimp only; exact wpAny_pure (fin h' L' es' ep' t' sb r pm)
/-- whatever it holds: all tuples, or all texts and numbers -/
inductive KyK : Bool → Ky → Prop
  | tup {p b} : p.1 = .ref b → KyK true p
  | sc {p} : KyS p → KyK false p
def capK : Bool → Nat
  | true => 76
  | false => 3999
structure SetA (m : Bool) (w : World) (h : Heap) (a : Addr) (L : List Ky) (es : Array (Int × Value)) (ep : Nat) (t : SetTable) : Prop where
  n : SetN w h a L es ep t
  tp : m = true → Sl8 w L t
  sc : m = false → Sc8 L
theorem add_a {m : Bool} (R : SetA m w s.heap a L es ep t) (al : ∀ p ∈ L, KyAt s.heap p) {x : Ky} (hk : KyK m x) (hx : KyAt s.heap x) (hu : A.units + 8 < cLine) (few : x.2 ∉ L.map (·.2) → L.length < capK m) {Q : Bool → Shared → Prop}
    (hQ : ∀ r h' L' es' ep' t', Heap.SameBut a s.heap h' → SetA m w h' a L' es' ep' t' → (x.2 ∈ L.map (·.2) → L' = L) → (x.2 ∉ L.map (·.2) → L'.Perm (x :: L)) → Q r { s with heap := h' }) :
    wpAny (model P w) A (setAddHashed a x.1 (x.2.hash w)) Q E s := by
  cases hk with
  | tup hb => exact add_k ⟨R.n, R.tp rfl⟩ al hb hx hu few fun r h' L' es' ep' t' sb R' u v => hQ r h' L' es' ep' t' sb ⟨R'.n, fun _ => R'.s, fun z => nomatch z⟩ u v
  | sc hs => exact add_s ⟨R.n, R.sc rfl⟩ hs (fun z => by have : L.length < 3999 := few z; omega) fun r h' L' es' ep' t' sb R' u v => hQ r h' L' es' ep' t' sb ⟨R'.n, fun z => (nomatch z), fun _ => R'.s⟩ u v
end
end Cv

/-! Cs6: set(xs); the new set. -/
namespace Cv
open PySem PySem.Spec PyProof.Rows L2
section
variable {P : Program} {w : World} {A : Around} {E : Value → Shared → Prop} {s : Shared} {a : Addr} {L : List Ky} {es : Array (Int × Value)} {ep : Nat} {t : SetTable} {m : Bool}
theorem SetA.keep {h h' : Heap} (R : SetA m w h a L es ep t) (k : ∀ o, h.get? a = some o → h'.get? a = some o) : SetA m w h' a L es ep t := by
  obtain ⟨⟨⟨o, ho, r⟩, u1, u2, u3, u4, u5⟩, v, x⟩ := R
  exact ⟨⟨⟨o, k o ho, r⟩, u1, u2, u3, u4, u5⟩, v, x⟩
/-- a set that is new -/
abbrev newS (w : World) : Obj := { cls := .type "set", dict := none, data := .set #[] 0 (.fresh 0 0 (!w.params.followText "set-order")) }
theorem setA_new {h : Heap} (m : Bool) (ho : h.get? a = some (newS w)) : SetA m w h a [] #[] 0 (.fresh 0 0 (!w.params.followText "set-order")) := by
  refine ⟨⟨⟨_, ho, ⟨rfl, rfl, rfl⟩, rfl⟩, rfl, List.nodup_nil, List.Pairwise.nil, rfl, ?_⟩, fun _ => ⟨fun p z => (by cases z), ⟨List.Pairwise.nil, rfl, rfl, .inl rfl, fun x z => (by cases z), fun i h j z => (by cases i <;> cases z)⟩, (show 0 * 5 < 7 * 3 by decide), Nat.zero_le _⟩, fun _ => ⟨fun p z => (by cases z), by decide⟩⟩
  cases z : w.params.followText "set-order"
  · exact .inr rfl
  · exact .inl rfl
/-- what is in a set behind some items -/
structure Hv (ks L : List Ky) : Prop where
  sub : ∀ p ∈ L, p ∈ ks
  all : ∀ p ∈ ks, p.2 ∈ L.map (·.2)
theorem Hv.nil : Hv [] [] := ⟨fun p z => (by cases z), fun p z => (by cases z)⟩
theorem Hv.old {ks L : List Ky} {x : Ky} (g : Hv ks L) (h : x.2 ∈ L.map (·.2)) : Hv (ks ++ [x]) L := by
  refine ⟨fun p hp => List.mem_append_left _ (g.sub p hp), fun p hp => ?_⟩
  rcases List.mem_append.mp hp with z | z
  · exact g.all p z
  · rw [List.mem_singleton.mp z]
    exact h
theorem Hv.new {ks L L' : List Ky} {x : Ky} (g : Hv ks L) (pm : L'.Perm (x :: L)) : Hv (ks ++ [x]) L' := by
  have q := pm.map (·.2)
  refine ⟨fun p hp => ?_, fun p hp => ?_⟩
  · rcases List.mem_cons.mp (pm.mem_iff.mp hp) with z | z
    · rw [z]
      exact List.mem_append_right _ (List.mem_singleton.mpr rfl)
    · exact List.mem_append_left _ (g.sub p z)
  · rw [q.mem_iff, List.map_cons]
    rcases List.mem_append.mp hp with z | z
    · exact List.mem_cons_of_mem _ (g.all p z)
    · rw [List.mem_singleton.mp z]
      exact List.mem_cons_self
/-- as many at most -/
def FitK (m : Bool) (ks : List Ky) : Prop := ∀ l : List NestedKey, l.Nodup → (∀ k ∈ l, k ∈ ks.map (·.2)) → l.length ≤ capK m
theorem fit_one {ks L : List Ky} {x : Ky} (f : FitK m ks) (nd : (L.map (·.2)).Nodup) (sub : ∀ p ∈ L, p ∈ ks) (hx : x ∈ ks) (h : x.2 ∉ L.map (·.2)) : L.length < capK m := by
  have := f (x.2 :: L.map (·.2)) (List.nodup_cons.mpr ⟨h, nd⟩) fun k hk => by
    rcases List.mem_cons.mp hk with z | z
    · rw [z]
      exact List.mem_map.mpr ⟨x, hx, rfl⟩
    · obtain ⟨p, p1, p2⟩ := List.mem_map.mp z
      exact List.mem_map.mpr ⟨p, sub p p1, p2⟩
  rw [List.length_cons, List.length_map] at this
  exact this
/-- one of the items goes in -/
theorem add_item {ks0 ks : List Ky} (R : SetA m w s.heap a L es ep t) (al : ∀ p ∈ ks0, KyAt s.heap p ∧ KyK m p) (hf : FitK m ks0) (sb : ∀ p ∈ ks, p ∈ ks0) (g : Hv ks L) {x : Ky} (hx : x ∈ ks0) (hu : A.units + 8 < cLine) {Q : Bool → Shared → Prop}
    (hQ : ∀ r h' tk L' es' ep' t', Heap.SameBut a s.heap h' → SetA m w h' a L' es' ep' t' → Hv (ks ++ [x]) L' → s.toks ≤ tk → Q r { s with heap := h', toks := tk }) : wpAny (model P w) A (setAdd a x.1) Q E s := by
  unfold setAdd
  refine wpAny_holding (wpAny_bind (ky_hash (al x hx).1 hu ?_))
  refine add_a (s := { s with toks := s.toks + x.2.draws }) R (fun p hp => (al p (sb p (g.sub p hp))).1) (al x hx).2 (al x hx).1 hu (fun z => fit_one hf R.n.nd (fun p hp => sb p (g.sub p hp)) hx z) fun r h' L' es' ep' t' sb' R' u v => ?_
  refine hQ r h' _ L' es' ep' t' sb' R' ?_ (Nat.le_add_right _ _)
  by_cases z : x.2 ∈ L.map (·.2)
  · rw [u z]
    exact g.old z
  · exact g.new (v z)
/-- the loop behind set(xs) -/
theorem upd_loop {I : Addr} {fp wr : List Addr} {G : Array GenState → Array GenState → Prop} {n : Nat} {Pv : Nat → Value → Prop} {St : Nat → Shared → Prop} {R : Result → Shared → Prop} (W : WalksS P w A.in1 I fp wr G n Pv St) {S : Addr} (sf : S ∉ fp)
    {ks : List Ky} (hn : n = ks.length) (hf : FitK m ks) (hv : ∀ i v, Pv i v → ∃ p, ks[i]? = some p ∧ v = p.1) {h0 : Heap} (hk : ∀ p ∈ ks, KyAt h0 p ∧ KyK m p) (n1 : h0.get? S = none) (n2 : ∀ b ∈ wr, h0.get? b = none) (hu : A.in1.units + 8 < cLine) :
    ∀ (d i : Nat) (s : Shared), n - i = d → i ≤ n → St i s → (∀ b o, h0.get? b = some o → s.heap.get? b = some o) → (∃ L es ep t, SetA m w s.heap S L es ep t ∧ Hv (ks.take i) L) →
      (∀ s' L es ep t, Moved (S :: wr) G s s' → SetA m w s'.heap S L es ep t → Hv ks L → (∀ b o, h0.get? b = some o → s'.heap.get? b = some o) → R (.ok (.ret .none)) s') →
      codeAny (model P w) A (.builtin "set.update.loop" ⟨[.ref S, .ref I], []⟩) R s := by
  have sw : S ∉ wr := fun z => sf (W.sub _ z)
  have up : ∀ b ∈ wr, b ∈ S :: wr := fun b z => List.mem_cons_of_mem _ z
  have kp : ∀ {u v : Shared}, Moved wr G u v → (∀ b o, h0.get? b = some o → u.heap.get? b = some o) → ∀ b o, h0.get? b = some o → v.heap.get? b = some o := fun mv k b o e =>
    mv.heap b o (fun z => by rw [n2 b z] at e; cases e) (k b o e)
  intro d
  induction d with
  | zero =>
    intro i s e1 e2 st k ⟨L, es, ep, t, hS, g⟩ hR
    have e3 : i = n := by omega
    subst e3
    refine codeAny_builtin F.entry_set_update_loop ?_
    rw [Around.under_plainId F.plain_set_update_loop _]
    show wpAny _ A.in1 (pyNext (.ref I) >>= _) _ _ s
    refine wpAny_bind (W.done s _ _ st fun s' mv => ?_)
    show wpAny _ A.in1 (ret Value.none) _ _ s'
    rw [hn, List.take_length] at g
    exact wpAny_pure (hR s' L es ep t (mv.mono up) (hS.keep fun o e => mv.heap S o sw e) g (kp mv k))
  | succ d ih =>
    intro i s e1 e2 st k ⟨L, es, ep, t, hS, g⟩ hR
    have lt : i < n := by omega
    refine codeAny_builtin F.entry_set_update_loop ?_
    rw [Around.under_plainId F.plain_set_update_loop _]
    show wpAny _ A.in1 (pyNext (.ref I) >>= _) _ _ s
    refine wpAny_bind (W.item i s _ _ lt st fun v s' hP st' mv => ?_)
    obtain ⟨p, hp, rfl⟩ := hv i v hP
    have k' := kp mv k
    show wpAny _ A.in1 (holding [p.1] (setAdd S p.1) >>= _) _ _ s'
    refine wpAny_bind (wpAny_holding (add_item (ks0 := ks) (ks := ks.take i) (hS.keep fun o e => mv.heap S o sw e) (fun q hq => ⟨(hk q hq).1.keep k', (hk q hq).2⟩) hf (fun q hq => List.mem_of_mem_take hq) g (List.mem_of_getElem? hp) hu fun r h' tk L' es' ep' t' sb R' g' ht => ?_))
    have g2 : Hv (ks.take (i + 1)) L' := by
      rw [List.take_succ, hp]
      exact g'
    refine wpAny_pure ⟨plainId_quiet F.plain_set_update_loop _, ih (i + 1) _ (by omega) lt (W.frame _ s' _ _ st' ht fun b hb o e => ?_) (fun b o e => (sb.2 b fun z => by rw [z, n1] at e; cases e).trans (k' b o e)) ⟨L', es', ep', t', R', g2⟩ fun s'' L2 es2 ep2 t2 m2 R2 g3 k3 => ?_⟩
    · rw [sb.2 b fun z => sf (by rw [← z]; exact hb)]
      exact e
    · refine hR s'' L2 es2 ep2 t2 (Moved.trans W.gtrans ((mv.mono up).then_heap ht fun b o hb e => ?_) m2) R2 g3 k3
      rw [sb.2 b fun z => hb (by rw [z]; exact List.mem_cons_self)]
      exact e
end
end Cv

/-! Cs7: the call set(xs). -/
namespace Cv
open PySem PySem.Spec PyProof.Rows L2
section
variable {P : Program} {w : World} {A : Around} {E : Value → Shared → Prop} {s : Shared} {m : Bool}
/-- what set(xs) leaves behind -/
def SetEnd (w : World) (m : Bool) (s : Shared) (ks : List Ky) (s2 : Shared) : Prop :=
  ∃ h' tk L es ep t, s2 = { s with heap := h', toks := tk } ∧ SetA m w h' s.heap.objs.size L es ep t ∧ Hv ks L ∧ ∀ b o, s.heap.get? b = some o → h'.get? b = some o
theorem old_none (h : Heap) {b : Addr} (hb : h.objs.size ≤ b) : h.get? b = none := by
  cases q : h.get? b with
  | none => rfl
  | some o => exact absurd (Heap.lt_size q) (Nat.not_lt_of_le hb)
/-- set.__init__ of the new set, by a list -/
theorem init_k {l : Addr} {items : Array Value} {ks : List Ky} (hh : A.handled = none) (hl : s.heap.IsList l items) (hit : items.toList = ks.map (·.1)) (hk : ∀ p ∈ ks, KyAt s.heap p ∧ KyK m p) (hf : FitK m ks) (hu : A.units + 12 < cLine) {Q : PySem.Fin → Shared → Prop}
    (hQ : ∀ s2, SetEnd w m s ks s2 → Q (.done (.ret .none)) s2) :
    wpAny (model P w) A (Builtin.«set.__init__» ⟨[.ref s.heap.objs.size, .ref l], []⟩) Q E { s with heap := s.heap.push (newS w) } := by
  have sz : items.size = ks.length := by
    rw [← Array.length_toList, hit, List.length_map]
  obtain ⟨o, ho, hc, c, hd⟩ := hl
  obtain ⟨ocls, odict, odata, oslots⟩ := o
  cases hc
  cases hd
  have lt : l < s.heap.objs.size := Heap.lt_size ho
  have hS : (s.heap.push (newS w)).get? s.heap.objs.size = some (newS w) := Heap.get?_push_size _ rfl
  have hT : Shared.TypeIs { s with heap := s.heap.push (newS w) } (.ref s.heap.objs.size) "set" := ⟨_, hS, rfl⟩
  have ho1 := Heap.get?_push_of_some (newS w) ho
  have hl1 : (s.heap.push (newS w)).IsList l items := ⟨_, ho1, rfl, c, rfl⟩
  have f1 := F.sub_list_set
  have f2 := F.sub_list_frozenset
  have f3 : (Value.type "list" == Value.type "dict") = false := by decide
  unfold Builtin.«set.__init__» noKeywords Builtin.Frozenset.updateFrom
  generalize e : pyIter = PI
  wp_walk
  subst e
  refine wpAny_pyIter_list hl1 (wpAny_bind (wpAny_runValue ?_))
  have z1 : (s.heap.push (newS w)).objs.size = s.heap.objs.size + 1 := Heap.size_push ..
  have ne : l ≠ (s.heap.push (newS w)).objs.size := by rw [z1]; exact Nat.ne_of_lt (Nat.lt_succ_of_lt lt)
  have nf : s.heap.objs.size ∉ [(s.heap.push (newS w)).objs.size, l] := by
    rw [z1]
    intro z
    rcases List.mem_cons.mp z with z | z
    · exact Nat.ne_of_lt (Nat.lt_succ_self _) z
    · exact Nat.ne_of_gt lt (List.mem_singleton.mp z)
  refine upd_loop ((Walks.list (show A.in1.handled = none by simp [hh]) _ l ne items).toS) nf sz hf (fun i v hv => ?_) hk (old_none _ (Nat.le_refl _)) (fun b hb => old_none _ ?_) (by simp only [Around.in1_units]; omega) (items.size - 0) 0 _ (by omega) (Nat.zero_le _)
    ?st ?kp ?_ fun s' L es ep t mv R g k => ?_
  case st => exact ⟨⟨_, Heap.get?_push_size _ rfl, rfl, rfl⟩, hl1.push _⟩
  case kp => exact fun b o e => Heap.get?_push_of_some _ (Heap.get?_push_of_some _ e)
  · have q : items.toList[i]? = some v := by rw [Array.getElem?_toList]; exact hv
    rw [hit, List.getElem?_map] at q
    obtain ⟨p, p1, p2⟩ := Option.map_eq_some_iff.mp q
    exact ⟨p, p1, p2.symm⟩
  · rw [List.mem_singleton.mp hb, z1]
    exact Nat.le_succ _
  · have z : ((s.heap.push (newS w)).push { cls := .type "list_iterator", data := .fields #[.ref l, .int 0 0] }).get? s.heap.objs.size = some (newS w) := Heap.get?_push_of_some _ hS
    exact ⟨[], #[], 0, _, setA_new m z, Hv.nil⟩
  · obtain ⟨h', g2, d', tk', os'⟩ := s'
    have eg : g2 = s.gens := mv.gens
    have ed : d' = s.drawn := mv.drawn
    have eo : os' = s.os := mv.os
    subst eg; subst ed; subst eo
    show wpAny _ _ _ _ _ _
    refine wpAny_pure ?_
    show wpAny _ _ (ret Value.none) _ _ _
    exact wpAny_pure (hQ _ ⟨h', tk', L, es, ep, t, rfl, R, g, k⟩)
end
end Cv

/-! Cs8: the call set(xs), whole; set.add. -/
namespace Cv
open PySem PySem.Spec PyProof.Rows L2
section
variable {P : Program} {w : World} {A : Around} {E : Value → Shared → Prop} {s : Shared} {m : Bool}
theorem call_set_k {l : Addr} {items : Array Value} {ks : List Ky} {Q : Value → Shared → Prop} (hh : A.handled = none) (hl : s.heap.IsList l items) (hit : items.toList = ks.map (·.1)) (hk : ∀ p ∈ ks, KyAt s.heap p ∧ KyK m p) (hf : FitK m ks) (hu : A.units + 20 < cLine)
    (hQ : ∀ s2, SetEnd w m s ks s2 → Q (.ref s.heap.objs.size) s2) : wpAny (model P w) A (call (.type "set") [.ref l]) Q E s := by
  obtain ⟨_, _, hmro⟩ := F.called_set.mro
  have u1 := F.called_set.made
  have u2 := F.called_set.sub
  have u3 := F.called_set.notType
  have u4 := F.called_set.canCreate
  refine wpAny_call (codeAny_of_tree ?_)
  show wpAny _ _ (callAny (.type "set") _) _ _ _
  refine wpAny_pure ⟨Code.quiet_builtin _ (by decide +kernel), codeAny_builtin F.entry_type_call ?_⟩
  rw [Around.under_plain (weight_type_call_type "set" [.ref l] []) rfl]
  have u5 := F.typeCall_set_1 (.ref l)
  repeat (any_goals (first | assumption | wp_step))
  refine codeAny_mono (code_set_led1 (.ref l) (E := E) (Q₁ := fun v s1 => v = .ref s.heap.objs.size ∧ s1 = { s with heap := s.heap.push (newS w) }) ⟨rfl, rfl⟩) fun r s1 h1 => ?_
  match r, h1 with
  | .error e, h1 => exact h1
  | .ok (.ret v), h1 =>
    obtain ⟨rfl, rfl⟩ := h1
    have hT : Shared.TypeIs { s with heap := s.heap.push (newS w) } (.ref s.heap.objs.size) "set" := ⟨_, Heap.get?_push_size _ rfl, rfl⟩
    have v1 := F.called_set.init.lookup
    have v2 := F.called_set.init.bind (.ref s.heap.objs.size)
    repeat (any_goals (first | assumption | wp_step))
    refine codeAny_mono (codeAny_call_builtin (R := wants (fun r s2 => r = .none ∧ SetEnd w m s ks s2) E) F.called_set.init.plain F.entry_set_init (check_set_init_1 hT ?_)) fun r2 s2 h2 => ?_
    · refine init_k (m := m) (hh := by simp [hh]) hl hit hk hf (by simp only [Around.in1_units]; omega) fun s2 z => ?_
      exact ⟨rfl, z⟩
    · match r2, h2 with
      | .error e, h2 => exact h2
      | .ok (.ret v), h2 =>
        obtain ⟨rfl, z⟩ := h2
        repeat (any_goals (first | assumption | wp_step))
        exact hQ _ z
end
end Cv

/-! Cs9: sorted of a set, its length. -/
namespace Cv
open PySem PySem.Spec PyProof.Rows L2 PySem.W
section
variable {P : Program} {w : World} {A : Around} {E : Value → Shared → Prop} {s : Shared} {m : Bool}
/-- sorted: first all is gathered, then a new list is sorted -/
theorem sorted_gather {src : Value} {Q : Value → Shared → Prop}
    (hc : ∀ E' : Value → Shared → Prop, wpAny (model P w) A.in1 (collect src) (fun vs s1 => vs.length ≤ sizeLine ∧ ∃ κ, SortsAt P w A.in1.in1 { s1 with heap := sortingHeap (s1.heap.push (seqObj "list" vs.toArray 0)) s1.heap.objs.size vs } κ vs ∧
      Q (.ref s1.heap.objs.size) { s1 with heap := sortedHeap (s1.heap.push (seqObj "list" vs.toArray 0)) s1.heap.objs.size vs (sortVals κ false vs vs).toArray }) E' s) :
    wpAny (model P w) A (call (.builtin "sorted") [src]) Q E s := by
  refine Calls.call_function_entry kind_sorted plain_sorted entry_sorted (args_sorted1 _) ?_
  unfold Builtin.«sorted»
  refine wpAny_bind (m := checkCount "sorted" 1 1 _) (wpAny_pure ?_)
  refine wpAny_bind (wpAny_mono (hc _) (fun vs s1 h1 => ?_) fun _ _ e => e)
  obtain ⟨hL, κ, S, q⟩ := h1
  refine wpAny_bind (wpAny_newList ?_ hL)
  have ho : (s1.heap.push (seqObj "list" vs.toArray 0)).get? s1.heap.objs.size = some (seqObj "list" vs.toArray 0) := Heap.get?_push_size _ rfl
  refine wpAny_bind (wpAny_holding (wpAny_call_entry slot_list_sort (s := { s1 with heap := s1.heap.push (seqObj "list" vs.toArray 0) }) ⟨_, ho, rfl⟩ entry_list_sort ?_ (args_list_sort _)))
  refine list_sort_vals (s := { s1 with heap := s1.heap.push (seqObj "list" vs.toArray 0) }) ho S hL ?_
  exact ⟨_, rfl, wpAny_pure ⟨_, rfl, q⟩⟩
theorem each_pm {α : Type} {R : Value → α → Prop} : ∀ {vs us : List Value} {bs : List α}, us.Perm vs → EachIs R vs bs → ∃ cs : List α, cs.Perm bs ∧ EachIs R us cs := by
  intro vs us bs p
  induction p generalizing bs with
  | nil => exact fun e => ⟨bs, List.Perm.refl _, e⟩
  | cons x _ ih =>
    intro e
    cases e with
    | cons r t =>
      obtain ⟨cs, c1, c2⟩ := ih t
      exact ⟨_ :: cs, c1.cons _, .cons r c2⟩
  | swap x y l =>
    intro e
    cases e with
    | cons r t =>
      cases t with
      | cons r2 t => exact ⟨_, List.Perm.swap .., .cons r2 (.cons r t)⟩
  | trans p q ih1 ih2 =>
    intro e
    obtain ⟨cs, c1, c2⟩ := ih2 e
    obtain ⟨es, d1, d2⟩ := ih1 c2
    exact ⟨es, d1.trans c1, d2⟩
theorem SetA.small {w : World} {h : Heap} {a : Addr} {L : List Ky} {es : Array (Int × Value)} {ep : Nat} {t : SetTable} (R : SetA m w h a L es ep t) : L.length < 4000 := by
  cases m with
  | true => have := (R.tp rfl).few; omega
  | false => exact (R.sc rfl).few
/-- sorted(a set): the members as data, sorted, from some order -/
theorem sorted_set_k {β : Type} {a : Addr} {L : List Ky} {es : Array (Int × Value)} {ep : Nat} {t : SetTable} {bs : List β} {enc : β → PyData} {R : Value → β → Prop} {Q : Value → Shared → Prop} (hh : A.handled = none) (S : SetA m w s.heap a L es ep t) (e : EachIs R (L.map (·.1)) bs)
    (er : EachIs (fun v b => ∃ as, Reads s.heap v (enc b) as) (L.map (·.1)) bs) (hal : AllAlike (bs.map enc)) (hn : ∀ d ∈ bs.map enc, d ≠ .none) (hu : ∀ b, b ∈ bs → A.units + 2 + (enc b).depth < cLine)
    (h : ∀ s' p c (cs : List β) (out : List Value), cs.Perm bs → EachIs R out (cs.mergeSort (dataLe false enc)) → (∀ b o, s.heap.get? b = some o → s'.heap.get? b = some o) → s'.gens = s.gens → s'.os = s.os → s.heap.objs.size ≤ p →
      s'.heap.get? p = some (seqObj "list" out.toArray c) → Q (.ref p) s') : wpAny (model P w) A (call (.builtin "sorted") [.ref a]) Q E s := by
  obtain ⟨o, ho, hx, hd⟩ := S.n.ob
  have few := S.small
  have sz := S.n.size
  refine sorted_gather fun E' => ?_
  refine collect_set (A := A.in1) (by simp [hh]) ⟨o, ho, hx.1, hd⟩ S.n.fit (by show es.size < 4096; omega) S.n.ris S.n.led fun s1 vs k1 z1 g1 o1 pm => ?_
  have e0 : es.toList.map (·.2) = L.map (·.1) := by
    rw [S.n.lines]
    unfold rwK
    rw [List.map_map]
    rfl
  rw [e0] at pm
  have e2 : EachIs (fun v b => R v b ∧ ∃ as, Reads s.heap v (enc b) as) (L.map (·.1)) bs := by
    clear pm e0 sz few h hu hn hal S
    generalize L.map (·.1) = us at e er
    induction e with
    | nil => exact .nil
    | cons r _ ih =>
      cases er with
      | cons r2 t2 => exact .cons ⟨r, r2⟩ (ih t2)
  obtain ⟨cs, c1, c2⟩ := each_pm pm e2
  have len : vs.length = L.length := by rw [pm.length_eq, List.length_map]
  have hL : vs.length ≤ sizeLine := by rw [len, sizeLine_eq]; omega
  have old : ∀ {b : Addr} {u : Obj}, s.heap.get? b = some u → (sortingHeap (s1.heap.push (seqObj "list" vs.toArray 0)) s1.heap.objs.size vs).get? b = some u := fun {b u} q =>
    sortingHeap_old (Nat.ne_of_lt (Heap.lt_size (k1 b u q))) (Heap.get?_push_of_some _ (k1 b u q))
  have er' : EachIs (fun v b => ∃ as, Reads (sortingHeap (s1.heap.push (seqObj "list" vs.toArray 0)) s1.heap.objs.size vs) v (enc b) as) vs cs := c2.mono fun _ _ ⟨_, as, r⟩ => ⟨as, PyProof.Rows.Reads.keeps (fun _ _ => old) r⟩
  have hal' : AllAlike (cs.map enc) := fun d hd d' hd' => hal d ((c1.map enc).mem_iff.mp hd) d' ((c1.map enc).mem_iff.mp hd')
  refine ⟨hL, dataKind (sortingHeap (s1.heap.push (seqObj "list" vs.toArray 0)) s1.heap.objs.size vs) (cs.map enc), ?_, ?_⟩
  · refine sortsAny (s := { s1 with heap := sortingHeap (s1.heap.push (seqObj "list" vs.toArray 0)) s1.heap.objs.size vs }) (each_map (R := fun v d => ∃ as, Reads (sortingHeap (s1.heap.push (seqObj "list" vs.toArray 0)) s1.heap.objs.size vs) v d as) enc er') hal' (fun d hd => hn d ((c1.map enc).mem_iff.mp hd)) fun d hd => ?_
    obtain ⟨b, hb, rfl⟩ := List.mem_map.mp hd
    exact hu b (c1.mem_iff.mp hb)
  · have ho1 : (s1.heap.push (seqObj "list" vs.toArray 0)).get? s1.heap.objs.size = some (seqObj "list" vs.toArray 0) := Heap.get?_push_size _ rfl
    obtain ⟨c, hc⟩ := sortedHeap_at (vs := vs) (out := (sortVals (dataKind (sortingHeap (s1.heap.push (seqObj "list" vs.toArray 0)) s1.heap.objs.size vs) (cs.map enc)) false vs vs).toArray) ho1
    refine h _ _ c cs _ c1 (sortVals_data false (c2.mono fun _ _ r => r.1) er' hal') (fun b u q => ?_) g1 o1 z1 hc
    have lt := Heap.lt_size (k1 b u q)
    show (sortedHeap (s1.heap.push (seqObj "list" vs.toArray 0)) s1.heap.objs.size vs _).get? b = some u
    rw [sortedHeap_old (Nat.ne_of_lt lt) (by rw [size_push']; exact Nat.lt_succ_of_lt lt)]
    exact Heap.get?_push_of_some _ (k1 b u q)
/-- all of a tuple -/
theorem gather_tup {l : Addr} {vs : List Value} {Q : List Value → Shared → Prop} (ht : s.heap.IsTuple l vs.toArray) (hz : vs.length ≤ sizeLine)
    (h : Q vs { s with heap := (s.heap.push (seqObj "list" #[] 0)).update s.heap.objs.size (Obj.mapSeq (· ++ vs.toArray)) }) : wpAny (model P w) A (collect (.ref l)) Q E s := by
  obtain ⟨o, ho, hc, n, hd⟩ := id ht
  have lt := Heap.lt_size ho
  unfold collect
  refine wpAny_bind (wpAny_runValue (codeAny_builtin entry_proto_collect' ?_))
  show wpAny _ _ (do again (.builtin "list.__iadd__" ⟨[← newList [], .ref l], []⟩)) _ _ s
  refine wpAny_bind (wpAny_newList (wpAny_pure ⟨Code.quiet_builtin _ (by decide +kernel), codeAny_builtin entry_list_iadd' ?_⟩))
  show wpAny _ _ (Builtin.List.listExtendWith (.ref s.heap.objs.size) (.ref l) (.ref s.heap.objs.size)) _ _ { s with heap := s.heap.push (seqObj "list" #[] 0) }
  have h1 : (s.heap.push (seqObj "list" #[] 0)).get? l = some o := Heap.get?_push_of_some _ ho
  have h2 : (s.heap.push (seqObj "list" #[] 0)).get? s.heap.objs.size = some (seqObj "list" #[] 0) := Heap.get?_push_size _ rfl
  unfold Builtin.List.listExtendWith
  refine wpAny_bind (wpAny_typeOf (T := "tuple") ⟨o, h1, hc⟩ ?_)
  have e1 : Builtin.List.listSameRef (.ref s.heap.objs.size) (.ref l) = false := by simp [Builtin.List.listSameRef, Nat.ne_of_gt lt]
  have e2 : (Value.type "tuple" == Value.type "list") = false := by decide
  have e3 : (Value.type "tuple" == Value.type "tuple") = true := by decide
  refine L2.wp_if_pos (by rw [e1, e2, e3]; rfl) ?_
  refine wpAny_bind (listItems_at h1 hd (wpAny_bind (listItems_at (xs := #[]) (n := 0) h2 rfl ?_)))
  refine L2.wp_if_neg (by simp) ?_
  try refine wpAny_bind (wpAny_pure ?_)
  refine wpAny_bind (listUpdate_at (xs := #[]) (n := 0) h2 rfl ?_ (Nat.zero_le _) (by show (#[] ++ vs.toArray).size ≤ sizeLine + 1; simp only [Array.size_append, List.size_toArray, List.length_nil]; omega))
  refine wpAny_pure ?_
  show wpAny (model P w) A (do
      let o ← load s.heap.objs.size
      match o.data with
      | .seq xs _ => pure xs.toList
      | _ => unsupported "internal:collect") Q E _
  refine wpAny_bind (wpAny_load (get?_update_seq h2 _) ?_)
  show wpAny _ _ (pure ((#[] : Array Value) ++ vs.toArray).toList) Q E _
  have e4 : ((#[] : Array Value) ++ vs.toArray).toList = vs := by simp
  rw [e4]
  exact wpAny_pure h
/-- sorted(a tuple) -/
theorem sorted_tup_k {β : Type} {vs : List Value} {bs : List β} {enc : β → PyData} {R : Value → β → Prop} {l : Addr} {Q : Value → Shared → Prop} (ht : s.heap.IsTuple l vs.toArray) (e : EachIs R vs bs) (er : EachIs (fun v b => ∃ as, Reads s.heap v (enc b) as) vs bs)
    (hal : AllAlike (bs.map enc)) (hn : ∀ d ∈ bs.map enc, d ≠ .none) (hL : bs.length ≤ sizeLine) (hu : ∀ b, b ∈ bs → A.units + 2 + (enc b).depth < cLine)
    (h : ∀ s' p c (out : List Value), EachIs R out (bs.mergeSort (dataLe false enc)) → (∀ b o, s.heap.get? b = some o → s'.heap.get? b = some o) → s'.gens = s.gens → s'.os = s.os → s.heap.objs.size ≤ p → s'.heap.get? p = some (seqObj "list" out.toArray c) → Q (.ref p) s') :
    wpAny (model P w) A (call (.builtin "sorted") [.ref l]) Q E s := by
  have len : vs.length = bs.length := e.length
  refine sorted_gather fun E' => gather_tup (A := A.in1) ht (by rw [len]; exact hL) ?_
  have hz : ((s.heap.push (seqObj "list" #[] 0)).update s.heap.objs.size (Obj.mapSeq (· ++ vs.toArray))).objs.size = s.heap.objs.size + 1 := by
    rw [Heap.size_update, size_push']
  have k1 : ∀ b u, s.heap.get? b = some u → ((s.heap.push (seqObj "list" #[] 0)).update s.heap.objs.size (Obj.mapSeq (· ++ vs.toArray))).get? b = some u := fun b u q => by
    rw [Heap.get?_update_ne _ _ _ _ (Nat.ne_of_lt (Heap.lt_size q))]
    exact Heap.get?_push_of_some _ q
  generalize hs1 : ({ s with heap := (s.heap.push (seqObj "list" #[] 0)).update s.heap.objs.size (Obj.mapSeq (· ++ vs.toArray)) } : Shared) = s1
  have k2 : ∀ b u, s.heap.get? b = some u → s1.heap.get? b = some u := by rw [← hs1]; exact k1
  have z1 : s.heap.objs.size ≤ s1.heap.objs.size := by rw [← hs1]; show _ ≤ ((s.heap.push (seqObj "list" #[] 0)).update s.heap.objs.size (Obj.mapSeq (· ++ vs.toArray))).objs.size; rw [hz]; exact Nat.le_succ _
  have g1 : s1.gens = s.gens := by rw [← hs1]
  have o1 : s1.os = s.os := by rw [← hs1]
  have old : ∀ {b : Addr} {u : Obj}, s.heap.get? b = some u → (sortingHeap (s1.heap.push (seqObj "list" vs.toArray 0)) s1.heap.objs.size vs).get? b = some u := fun {b u} q =>
    sortingHeap_old (Nat.ne_of_lt (Heap.lt_size (k2 b u q))) (Heap.get?_push_of_some _ (k2 b u q))
  have er' : EachIs (fun v b => ∃ as, Reads (sortingHeap (s1.heap.push (seqObj "list" vs.toArray 0)) s1.heap.objs.size vs) v (enc b) as) vs bs := er.mono fun _ _ ⟨as, r⟩ => ⟨as, PyProof.Rows.Reads.keeps (fun _ _ => old) r⟩
  refine ⟨by rw [len]; exact hL, dataKind (sortingHeap (s1.heap.push (seqObj "list" vs.toArray 0)) s1.heap.objs.size vs) (bs.map enc), ?_, ?_⟩
  · refine sortsAny (s := { s1 with heap := sortingHeap (s1.heap.push (seqObj "list" vs.toArray 0)) s1.heap.objs.size vs }) (each_map (R := fun v d => ∃ as, Reads (sortingHeap (s1.heap.push (seqObj "list" vs.toArray 0)) s1.heap.objs.size vs) v d as) enc er') hal hn fun d hd => ?_
    obtain ⟨b, hb, rfl⟩ := List.mem_map.mp hd
    exact hu b hb
  · have ho1 : (s1.heap.push (seqObj "list" vs.toArray 0)).get? s1.heap.objs.size = some (seqObj "list" vs.toArray 0) := Heap.get?_push_size _ rfl
    obtain ⟨c, hc⟩ := sortedHeap_at (vs := vs) (out := (sortVals (dataKind (sortingHeap (s1.heap.push (seqObj "list" vs.toArray 0)) s1.heap.objs.size vs) (bs.map enc)) false vs vs).toArray) ho1
    refine h _ _ c _ (sortVals_data false e er' hal) (fun b u q => ?_) g1 o1 z1 hc
    have lt := Heap.lt_size (k2 b u q)
    show (sortedHeap (s1.heap.push (seqObj "list" vs.toArray 0)) s1.heap.objs.size vs _).get? b = some u
    rw [sortedHeap_old (Nat.ne_of_lt lt) (by rw [size_push']; exact Nat.lt_succ_of_lt lt)]
    exact Heap.get?_push_of_some _ (k2 b u q)
end
end Cv

/-! Cs10: sets, sorted, as calls told by what the names hold. -/
namespace Cv
open PySem PySem.Spec PyProof.Rows L2 PySem.W
mutual
/-- data that is a key's is that key -/
theorem key_reads {h : Heap} : ∀ (k : NestedKey) (u : Value) (as : List Addr), Reads h u k.data as → NestedIs h k u
  | .none, _, _, r => by cases r; exact .none
  | .num i, _, _, r => by cases r; exact .int _ _
  | .text z, _, _, r => by cases r; exact .text _ _
  | .tup ks, _, _, r => by
    cases r with
    | tuple h1 h2 h3 h4 => exact .tup h1 h2 h3 (keys_read ks _ _ h4)
theorem keys_read {h : Heap} : ∀ (ks : List NestedKey) (us : List Value) (as : List Addr), ReadsAll h us (NestedKey.datas ks) as → NestedAll h ks us
  | [], _, _, r => by cases r; exact .nil
  | k :: ks, _, _, r => by
    cases r with
    | cons h1 h2 => exact .cons (key_reads k _ _ h1) (keys_read ks _ _ h2)
end
abbrev Kv := V × NestedKey
/-- the same, as values -/
inductive KP : List Kv → List Ky → Prop
  | nil : KP [] []
  | cons {v : V} {u : Value} {k : NestedKey} {ps : List Kv} {qs : List Ky} : RelV v u → KP ps qs → KP ((v, k) :: ps) ((u, k) :: qs)
theorem KP.keys : ∀ {ps : List Kv} {qs : List Ky}, KP ps qs → ps.map (·.2) = qs.map (·.2)
  | _, _, .nil => rfl
  | _, _, .cons _ t => by rw [List.map_cons, List.map_cons, t.keys]
theorem KP.vals : ∀ {ps : List Kv} {qs : List Ky}, KP ps qs → Vals (ps.map (·.1)) (qs.map (·.1))
  | _, _, .nil => .nil
  | _, _, .cons r t => .cons r t.vals
theorem KP.of : ∀ {ps : List Kv} {us : List Value}, Vals (ps.map (·.1)) us → ∃ qs : List Ky, KP ps qs ∧ us = qs.map (·.1)
  | [], _, .nil => ⟨[], .nil, rfl⟩
  | (v, k) :: ps, u :: us, .cons r t => by
    obtain ⟨qs, h1, h2⟩ := KP.of t
    exact ⟨(u, k) :: qs, .cons r h1, by rw [h2]; rfl⟩
theorem KP.left : ∀ {ps : List Kv} {qs : List Ky}, KP ps qs → ∀ q ∈ qs, ∃ p ∈ ps, RelV p.1 q.1 ∧ p.2 = q.2
  | _, _, .cons (v := v) (k := k) r t, q, h => by
    rcases List.mem_cons.mp h with z | z
    · exact ⟨(v, k), List.mem_cons_self, by rw [z]; exact r, by rw [z]⟩
    · obtain ⟨p, h1, h2⟩ := t.left q z
      exact ⟨p, List.mem_cons_of_mem _ h1, h2⟩
theorem KP.right : ∀ {ps : List Kv} {qs : List Ky}, KP ps qs → ∀ p ∈ ps, ∃ q ∈ qs, RelV p.1 q.1 ∧ p.2 = q.2
  | _, _, .cons (u := u) (k := k) r t, p, h => by
    rcases List.mem_cons.mp h with z | z
    · exact ⟨(u, k), List.mem_cons_self, by rw [z]; exact r, by rw [z]⟩
    · obtain ⟨q, h1, h2⟩ := t.right p z
      exact ⟨q, List.mem_cons_of_mem _ h1, h2⟩
/-- some of them -/
theorem KP.some {ps : List Kv} {qs : List Ky} (x : KP ps qs) : ∀ {rs : List Ky}, (∀ r ∈ rs, r ∈ qs) → ∃ ts : List Kv, KP ts rs ∧ ∀ t ∈ ts, t ∈ ps
  | [], _ => ⟨[], .nil, fun _ z => nomatch z⟩
  | (u, k) :: rs, h => by
    obtain ⟨ts, h1, h2⟩ := x.some fun r hr => h r (List.mem_cons_of_mem _ hr)
    obtain ⟨⟨v, k'⟩, p1, p2, p3⟩ := x.left _ (h _ List.mem_cons_self)
    cases p3
    refine ⟨(v, k) :: ts, .cons p2 h1, fun t ht => ?_⟩
    rcases List.mem_cons.mp ht with z | z
    · rw [z]; exact p1
    · exact h2 t z
theorem KP.perm : ∀ {ps : List Kv} {qs qs' : List Ky}, KP ps qs → qs'.Perm qs → ∃ ps' : List Kv, ps'.Perm ps ∧ KP ps' qs' := by
  intro ps qs qs' x p
  induction p generalizing ps with
  | nil => exact ⟨ps, List.Perm.refl _, x⟩
  | cons q _ ih =>
    cases x with
    | cons r t =>
      obtain ⟨ps', h1, h2⟩ := ih t
      exact ⟨_ :: ps', h1.cons _, .cons r h2⟩
  | swap a b l =>
    cases x with
    | cons r t =>
      cases t with
      | cons r2 t => exact ⟨_, List.Perm.swap .., .cons r2 (.cons r t)⟩
  | trans _ _ ih1 ih2 =>
    obtain ⟨p1, a1, a2⟩ := ih2 x
    obtain ⟨p2, b1, b2⟩ := ih1 a2
    exact ⟨p2, b1.trans a1, b2⟩
/-- the set at a -/
def SetV (w : World) (m : Bool) (a : Addr) (L : List Kv) : HO := .ext fun h => ∃ L' : List Ky, KP L L' ∧ ∃ es ep t, SetA m w h a L' es ep t
theorem setV_ok {P : Program} {w : World} {H : Hp} {h : Heap} {a : Addr} {m : Bool} {L : List Kv} {L' : List Ky} {es : Array (Int × Value)} {ep : Nat} {t : SetTable} (x : KP L L') (R : SetA m w h a L' es ep t) : ObjOk P w H h a (SetV w m a L) := by
  obtain ⟨o, ho, _⟩ := id R.n.ob
  refine ⟨⟨L', x, es, ep, t, R⟩, ⟨o, ho⟩, fun h1 h2 p k => ?_⟩
  obtain ⟨L2, x2, es2, ep2, t2, R2⟩ := p
  exact ⟨L2, x2, es2, ep2, t2, R2.keep k⟩
/-- a member, as the names know it -/
structure KvAt (K : PySem.W.Frag) (H : Hp) (m : Bool) (p : Kv) : Prop where
  dat : Dp K H p.1 p.2.data
  dp : p.2.depth ≤ 8
  sort : match m with
    | true => ∃ b, p.1 = .ref b
    | false => ∃ k : Key, p.1 = kV k ∧ p.2 = nkOf k
section
variable {X : Cx} {pins : List (Addr × Obj)} {σ : L2.St} {H : Hp} {s : Shared}
theorem kv_ky {m : Bool} (I : Inv X pins σ H s) {p : Kv} {u : Value} (x : KvAt X.K H m p) (r : RelV p.1 u) : KyAt s.heap (u, p.2) ∧ KyK m (u, p.2) := by
  obtain ⟨as, rd⟩ := Dp.reads I _ _ _ x.dat r
  refine ⟨⟨key_reads _ _ _ rd, x.dp⟩, ?_⟩
  have z := x.sort
  cases m with
  | true =>
    obtain ⟨b, e⟩ := z
    rw [e] at r
    exact .tup (b := b) r
  | false =>
    obtain ⟨k, e1, e2⟩ := z
    rw [e1] at r
    exact .sc ⟨k, kV_is (P := X.prog) (w := X.w) r, e2⟩
theorem setV_get (I : Inv X pins σ H s) {a : Addr} {m : Bool} {L : List Kv} (h : H a = some (SetV X.w m a L)) : ∃ L' : List Ky, KP L L' ∧ ∃ es ep t, SetA m X.w s.heap a L' es ep t := (I.hok a _ h).1
/-- a new thing behind some steps -/
theorem new_at (I : Inv X pins σ H s) {s' : Shared} {p : Addr} {o : HO} (k : ∀ b u, s.heap.get? b = some u → s'.heap.get? b = some u) (g : s'.gens = s.gens) (e : s'.os = s.os) (hp : s.heap.objs.size ≤ p) (new : ObjOk X.prog X.w (upd H p o) s'.heap p o) : Inv X pins σ (upd H p o) s' :=
  I.call' (ch := []) e (Un.laid k hp (I.hok.fresh hp)) (I.hok.laid k hp new) (by rw [g]; exact I.bare) fun _ z => nomatch z
def FitV (m : Bool) (ks : List Kv) : Prop := ∀ l : List NestedKey, l.Nodup → (∀ k ∈ l, k ∈ ks.map (·.2)) → l.length ≤ capK m
/-- set(xs) -/
def rSetK (K : PySem.W.Frag) (w : World) : List V → Hp → VK → Prop := fun xs H Q => ∃ (l : Addr) (m : Bool) (ks : List Kv), xs = [V.ref l] ∧ SqL K H l (ks.map (·.1)) ∧ (∀ p ∈ ks, KvAt K H m p) ∧ FitV m ks ∧
  ∀ a L, H a = none → (L.map (·.2)).Nodup → (∀ p ∈ L, p ∈ ks) → (∀ p ∈ ks, p.2 ∈ L.map (·.2)) → Q (.ref a) (upd H a (SetV w m a L))
theorem cr_setK (hc : X.calm = true) (hu : X.A.units + 64 < cLine) : CallR X (.type "set") (rSetK X.K X.w) := by
  intro pins s σ H xs us Q I r h
  obtain ⟨l, m, ks, rfl, hl, hk, hf, q⟩ := h
  rw [Vals.ref1 r]
  obtain ⟨its, rv, pl, _⟩ := I.list hl
  obtain ⟨qs, x, e⟩ := KP.of rv
  have al : ∀ p ∈ qs, KyAt s.heap p ∧ KyK m p := fun p hp => by
    obtain ⟨v, h1, h2, h3⟩ := x.left p hp
    have z := kv_ky I (hk v h1) h2
    rw [h3] at z
    exact z
  refine call_set_k (m := m) (ks := qs) (I.ok.hd hc) pl.isList (by simpa using e) al (fun l hl hs => hf l hl (by rw [x.keys]; exact hs)) (by omega) fun s2 z => ?_
  obtain ⟨h', tk, L, es, ep, t, rfl, R, g, k⟩ := z
  obtain ⟨L2, x2, sub⟩ := x.some g.sub
  refine ⟨.ref s.heap.objs.size, _, I.laid (t' := tk) k (Nat.le_refl _) (setV_ok x2 R), rfl, q _ L2 (I.hok.fresh (Nat.le_refl _)) ?_ sub fun p hp => ?_⟩
  · rw [x2.keys]
    exact R.n.nd
  · obtain ⟨p', h1, _, h3⟩ := x.right p hp
    rw [x2.keys, h3]
    exact g.all p' h1
abbrev Vd := V × PyData
abbrev leV : Vd → Vd → Bool := dataLe false fun p : Vd => p.2
/-- what sorted asks of the items -/
structure SrtOk (K : PySem.W.Frag) (H : Hp) (ps : List Vd) : Prop where
  dat : ∀ p ∈ ps, Dp K H p.1 p.2
  alike : AllAlike (ps.map (·.2))
  some : ∀ p ∈ ps, p.2 ≠ .none
  depth : ∀ p ∈ ps, p.2.depth ≤ 100
  few : ps.length ≤ sizeLine
/-- sorted of a list, of a set -/
def rSrtK (K : PySem.W.Frag) (w : World) : List V → Hp → VK → Prop := fun vs H Q => ∃ (a : Addr) (ps : List Vd), vs = [V.ref a] ∧ SrtOk K H ps ∧
  (((SqL K H a (ps.map (·.1)) ∨ SqT K H a (ps.map (·.1))) ∧ ∀ q, H q = none → Q (.ref q) (upd H q (.lst ((ps.mergeSort leV).map (·.1))))) ∨
    ∃ m L, H a = some (SetV w m a L) ∧ ps = L.map (fun p => (p.1, p.2.data)) ∧ ∀ cs q, List.Perm cs ps → H q = none → Q (.ref q) (upd H q (.lst ((cs.mergeSort leV).map (·.1)))))
theorem each_of {R : Value → Vd → Prop} : ∀ {ps : List Vd} {us : List Value}, Vals (ps.map (·.1)) us → (∀ p ∈ ps, ∀ u, RelV p.1 u → R u p) → EachIs R us ps
  | [], _, .nil, _ => .nil
  | p :: ps, _, .cons r t, h => .cons (h p List.mem_cons_self _ r) (each_of t fun q hq => h q (List.mem_cons_of_mem _ hq))
theorem of_each : ∀ {ps : List Vd} {us : List Value}, EachIs (fun u (p : Vd) => RelV p.1 u) us ps → Vals (ps.map (·.1)) us
  | _, _, .nil => .nil
  | _, _, .cons r t => .cons r (of_each t)
theorem cr_srtK (hc : X.calm = true) (hu : X.A.units + 200 < cLine) : CallR X (.builtin "sorted") (rSrtK X.K X.w) := by
  intro pins s σ H vs us Q I r h
  obtain ⟨a, ps, rfl, S, q⟩ := h
  rw [Vals.ref1 r]
  have rd : ∀ p ∈ ps, ∀ u, RelV p.1 u → ∃ as, Reads s.heap u p.2 as := fun p hp u ru => Dp.reads I _ _ _ (S.dat p hp) ru
  have dep : ∀ p ∈ ps, X.A.units + 2 + p.2.depth < cLine := fun p hp => by have := S.depth p hp; omega
  have nn : ∀ d ∈ ps.map (·.2), d ≠ .none := fun d hd => by
    obtain ⟨p, h1, rfl⟩ := List.mem_map.mp hd
    exact S.some p h1
  rcases q with ⟨hl | hl, q⟩ | ⟨m, L, ha, e, q⟩
  · obtain ⟨its, rv, pl, _⟩ := I.list hl
    refine sorted_any (bs := ps) (enc := fun p => p.2) (R := fun u p => RelV p.1 u) (vs := its) pl.isList (each_of rv fun p _ u ru => ru) (each_of rv rd) S.alike nn S.few dep fun out hlen z => ?_
    obtain ⟨ep, he⟩ := PyProof.Rows.sortedAll_at s.heap its out.toArray
    refine ⟨.ref _, _, I.laid (t' := s.toks) (fun _ _ => PyProof.Rows.sortedAll_old) (Nat.le_succ _) (o := .lst ((ps.mergeSort leV).map (·.1))) ⟨?_, out, ep, of_each z, he⟩, rfl, q _ (I.hok.fresh (Nat.le_succ _))⟩
    rw [List.length_map, List.length_mergeSort]
    exact S.few
  · obtain ⟨its, rv, pl, _⟩ := I.tuple hl
    refine sorted_tup_k (bs := ps) (enc := fun p => p.2) (R := fun u p => RelV p.1 u) (vs := its) (by obtain ⟨o, h1, h2, n, h3⟩ := pl; exact ⟨o, h1, h2, n, h3⟩) (each_of rv fun p _ u ru => ru) (each_of rv rd) S.alike nn S.few dep fun s' p c out z k g o hp hq => ?_
    refine ⟨.ref p, _, new_at I (o := .lst ((ps.mergeSort leV).map (·.1))) k g o hp ⟨?_, out, c, of_each z, hq⟩, rfl, q p (I.hok.fresh hp)⟩
    rw [List.length_map, List.length_mergeSort]
    exact S.few
  · obtain ⟨L', x, es, ep, t, R⟩ := setV_get I ha
    have ev : Vals (ps.map (·.1)) (L'.map (·.1)) := by
      rw [e, List.map_map]
      exact x.vals
    refine sorted_set_k (m := m) (bs := ps) (enc := fun p => p.2) (R := fun u p => RelV p.1 u) (I.ok.hd hc) R (each_of ev fun p _ u ru => ru) (each_of ev rd) S.alike nn dep fun s' p c cs out pm z k g o hp hq => ?_
    refine ⟨.ref p, _, new_at I (o := .lst ((cs.mergeSort leV).map (·.1))) k g o hp ⟨?_, out, c, of_each z, hq⟩, rfl, q cs p pm (I.hok.fresh hp)⟩
    rw [List.length_map, List.length_mergeSort, pm.length_eq]
    exact S.few
/-- len of a set -/
def rLenK (w : World) : List V → Hp → VK → Prop := fun vs H Q => ∃ (a : Addr) (m : Bool) (L : List Kv), vs = [V.ref a] ∧ H a = some (SetV w m a L) ∧ Q (.int L.length) H
theorem KP.len : ∀ {ps : List Kv} {qs : List Ky}, KP ps qs → ps.length = qs.length
  | _, _, .nil => rfl
  | _, _, .cons _ t => by rw [List.length_cons, List.length_cons, t.len]
theorem cr_lenK : CallR X (.builtin "len") (rLenK X.w) := by
  intro pins s σ H vs us Q I r h
  obtain ⟨a, m, L, rfl, ha, q⟩ := h
  rw [Vals.ref1 r]
  obtain ⟨L', x, es, ep, t, R⟩ := setV_get I ha
  obtain ⟨o, ho, hx, hd⟩ := R.n.ob
  have sz : es.size = L.length := by rw [R.n.size, x.len]
  have few := R.small
  have := R.n.size
  refine call_len_set ho hx hd R.n.fit (by omega) ⟨.int L.length, H, I.tok _, ⟨_, by rw [sz]⟩, q⟩
end
end Cv

/-! Cs11: {e for t in it if ..}. -/
namespace Cv
open PySem PySem.Spec PyProof.Rows L2 PySem.W
section
variable {P : Program} {w : World} {A : Around} {E : Value → Shared → Prop} {s : Shared} {a : Addr} {m : Bool} {L : List Ky} {es : Array (Int × Value)} {ep : Nat} {t : SetTable}
/-- S.add(x) -/
theorem sadd_k (R : SetA m w s.heap a L es ep t) (al : ∀ p ∈ L, KyAt s.heap p) {x : Ky} (hk : KyK m x) (hx : KyAt s.heap x) (hu : A.units + 12 < cLine) (few : x.2 ∉ L.map (·.2) → L.length < capK m) {Q : Value → Shared → Prop}
    (hQ : ∀ h' tk L' es' ep' t', Heap.SameBut a s.heap h' → SetA m w h' a L' es' ep' t' → (x.2 ∈ L.map (·.2) → L' = L) → (x.2 ∉ L.map (·.2) → L'.Perm (x :: L)) → Q .none { s with heap := h', toks := tk }) :
    wpAny (model P w) A (call (.builtin "set.add") [.ref a, x.1]) Q E s := by
  obtain ⟨o, ho, hc, _⟩ := R.n.ob
  refine wpAny_call_entry F.slot_set_add ⟨o, ho, hc.1⟩ F.entry_set_add ?_ (F.args_set_add_2 _ _)
  unfold Builtin.«set.add» Builtin.Frozenset.oneOther
  simp only [List.isEmpty_nil, bind_assoc]
  unfold Builtin.Frozenset.addrOf setAdd
  refine wpAny_bind (wpAny_pure ?_)
  try dsimp only
  refine wpAny_bind (wpAny_pure ?_)
  try dsimp only
  refine wpAny_bind (wpAny_holding (wpAny_bind (ky_hash hx (by simp only [Around.in1_units]; omega) ?_)))
  refine add_a (s := { s with toks := s.toks + x.2.draws }) R al hk hx (by simp only [Around.in1_units]; omega) few fun r h' L' es' ep' t' sb R' u v => ?_
  show wpAny _ _ (ret Value.none) _ _ _
  exact wpAny_pure ⟨_, rfl, hQ h' _ L' es' ep' t' sb R' u v⟩
end
section
variable {X : Cx} {pins : List (Addr × Obj)} {σ : L2.St} {H : Hp} {s : Shared}
/-- one more, told by the names -/
theorem sadd_V {m : Bool} {a : Addr} {L : List Kv} {p : Kv} {u : Value} {Q : Value → Shared → Prop} {E : Value → Shared → Prop} (I : Inv X pins σ H s) (ha : H a = some (SetV X.w m a L)) (hL : ∀ q ∈ L, KvAt X.K H m q) (hp : KvAt X.K H m p) (r : RelV p.1 u)
    (hu : X.A.units + 64 < cLine) (few : p.2 ∉ L.map (·.2) → L.length < capK m)
    (hQ : ∀ L' s', (p.2 ∈ L.map (·.2) → L' = L) → (p.2 ∉ L.map (·.2) → L'.Perm (p :: L)) → Inv X pins σ (upd H a (SetV X.w m a L')) s' → Q .none s') : wpAny (model X.prog X.w) X.A (call (.builtin "set.add") [.ref a, u]) Q E s := by
  obtain ⟨L1, x, es, ep, t, R⟩ := setV_get I ha
  have al : ∀ q ∈ L1, KyAt s.heap q := fun q hq => by
    obtain ⟨v, h1, h2, h3⟩ := x.left q hq
    have z := (kv_ky I (hL v h1) h2).1
    rw [h3] at z
    exact z
  have hx := kv_ky I hp r
  refine sadd_k (x := (u, p.2)) R al hx.2 hx.1 (by omega) (fun z => by rw [← x.len]; exact few (by rw [x.keys]; exact z)) fun h' tk L2 es2 ep2 t2 sb R2 c1 c2 => ?_
  have fin : ∀ L', KP L' L2 → Inv X pins σ (upd H a (SetV X.w m a L')) { s with heap := h', toks := tk } := fun L' x' => by
    refine I.write (x := a) (e := a) (by rw [ha]; exact True.intro) (.inl rfl) (fun b o hb e => (sb.2 b hb).trans e) ?_ (setV_ok x' R2)
    obtain ⟨o, ho, _⟩ := R2.n.ob
    exact ⟨o, ho⟩
  by_cases z : p.2 ∈ L.map (·.2)
  · have e := c1 (by rw [← x.keys]; exact z)
    subst e
    exact hQ L _ (fun _ => rfl) (fun n => absurd z n) (fin L x)
  · have pm := c2 (by rw [← x.keys]; exact z)
    obtain ⟨L3, p1, p2⟩ := (KP.cons (v := p.1) (k := p.2) r x).perm pm
    exact hQ L3 _ (fun y => absurd y z) (fun _ => p1) (fin L3 p2)
end
section
variable {X : Cx}
/-- the set S is made turn by turn -/
def tSk (K : PySem.W.Frag) (w : World) (wi : TI) (g : TG) (tt : TT) (te : TE) (vs : List Nat) : TE := fun σ H Q => wi σ H fun J H1 => ∀ S, H1 S = none → ∃ (md : Bool) (W : Nat → Nat → Hp → Prop), (∃ m, W 0 m (upd H1 S (SetV w md S []))) ∧ ∀ i m H, W i m H →
  (J.stop i H ∧ Q (.ref S) H) ∨ (J.go i H ∧ ∃ Nx : Hp → Prop, (∀ H', Nx H' → ∃ m', m' < m ∧ W (i + 1) m' H') ∧ ∀ x H', J.yld i H x H' → g x (wipe σ vs) H' fun σ2 H2 => wipe σ2 vs = wipe σ vs ∧ tt σ2 H2 fun b H3 =>
    if b = true then te σ2 H3 fun y H4 => ∃ (L : List Kv) (k : NestedKey), H4 S = some (SetV w md S L) ∧ (∀ q ∈ L, KvAt K H4 md q) ∧ KvAt K H4 md (y, k) ∧ (k ∉ L.map (·.2) → L.length < capK md) ∧
      ∀ L', (k ∈ L.map (·.2) → L' = L) → (k ∉ L.map (·.2) → L'.Perm ((y, k) :: L)) → Nx (upd H4 S (SetV w md S L')) else Nx H3)
theorem sk_core {pins : List (Addr × Obj)} {s : Shared} {σ : L2.St} {H : Hp} {Q : VK} {el tg it : Expr} {cs : List Expr} {sc : Scope} {own : List (PySem.Str × Nat)} {p0 p1 : Pos} {wi : TI} {g : TG} {tt : TT} {te : TE} {use : Option (Value → Sem Unit)} {Qf : Value → Shared → Prop}
    (cm : X.calm = true) (nN : X.N.Nodup) (hu : X.A.units + 64 < cLine) (I : Inv X pins σ H s) (hi : PI X tg it wi) (bo : BlkOk X.N X.env.scope sc own)
    (jg : ∀ (s0 : Shared) (H0 : Hp) (C : Addr) (cl : List (PySem.Str × Addr)) (fs : List Addr), PG (X.blk s0 H0 sc (compEnvC sc cl C X.env) fs) tg g)
    (jt : ∀ (s0 : Shared) (H0 : Hp) (C : Addr) (cl : List (PySem.Str × Addr)) (fs : List Addr), PTs (X.blk s0 H0 sc (compEnvC sc cl C X.env) fs) cs tt)
    (je : ∀ (s0 : Shared) (H0 : Hp) (C : Addr) (cl : List (PySem.Str × Addr)) (fs : List Addr), PE (X.blk s0 H0 sc (compEnvC sc cl C X.env) fs) el te) (nf : ∀ x, foldedSetIterable it X.env x = pure x)
    (h : tSk X.K X.w wi g tt te (own.map (·.2)) σ H Q)
    (out : ∀ S C s1 n H1, Inv X pins σ H1 s1 → Q (.ref S) H1 → s1.heap.Ns C n → FpOk X pins H1 C → compPost (model X.prog X.w) X.A X.xe use Qf (.ref S) C (.ok .next) s1) :
    wpAny (model X.prog X.w) X.A (comprehension (.SetComp el [⟨tg, it, cs, 0⟩] sc p0) sc X.env p1 (newSet (.type "set")) false (eval it X.env) use) Qf X.xe s := by
  have fr : ∀ y ∈ sc.names, y.2 = .free → ∃ c, X.env.cells.lookup y.1 = some c := fun y hy e => by
    rcases bo.free y hy e with k | k
    · exact I.ok.has _ (.inl k)
    · exact I.ok.has _ (.inr k)
  refine wpAny_comprehension_free (use := use) rfl nf (closure_ok fr) bo.kind (fun y hy e => by rw [bo.uniq y hy, e]) (thn (hi.run pins s σ H _ I h) fun xv s1 hx => thn hx fun itv s2 h2 => ?_)
  obtain ⟨ia, fs, tn, J, H2, e0, I2, T, st2, f2, q⟩ := h2
  subst e0
  refine wpAny_newSet_raw fun led eled => newEnv_comp ?_
  subst eled
  generalize eS : s2.heap.objs.size = S
  have nS : H2 S = none := I2.hok.fresh (Nat.le_of_eq eS)
  obtain ⟨md, W, ⟨m0, w0⟩, turn⟩ := q S nS
  generalize e3 : ({ s2 with heap := s2.heap.push (newS X.w) } : Shared) = s3
  have h3 : s3.heap = s2.heap.push (newS X.w) := by rw [← e3]
  have at3 : s3.heap.get? S = some (newS X.w) := by rw [h3, ← eS]; exact Heap.get?_push_size _ rfl
  have I3 : Inv X pins σ (upd H2 S (SetV X.w md S [])) s3 := by
    rw [← e3]
    refine I2.laid (t' := s2.toks) (fun b o e => Heap.get?_push_of_some _ e) (Nat.le_of_eq eS) (setV_ok (L' := []) .nil (setA_new md ?_))
    rw [← h3]
    exact at3
  have inside : ∀ b ∈ fs, b < s2.heap.objs.size := fun b hb => by
    obtain ⟨o, e, _⟩ := T.obj _ _ st2 b hb
    exact Heap.lt_size e
  have f3 : ∀ b ∈ fs, FpOk X pins (upd H2 S (SetV X.w md S [])) b ∧ b < s3.heap.objs.size := fun b hb => by
    have lt := inside b hb
    refine ⟨⟨?_, (f2 b hb).2⟩, by rw [h3, Heap.size_push]; exact Nat.lt_succ_of_lt lt⟩
    rw [upd_ne (by rw [← eS]; exact Nat.ne_of_lt lt)]
    exact (f2 b hb).1
  have st3 : tn 0 s3.heap := T.keep _ _ _ st2 fun b _ o e => by rw [h3]; exact Heap.get?_push_of_some _ e
  have I4 := block_start I3 bo nN f3
  generalize eH : upd H2 S (SetV X.w md S []) = H3 at I3 I4 w0 f3
  have kg := jg s3 H3 s3.heap.objs.size (cellsFrom (s3.heap.objs.size + 1) sc.names (cloFrom X.env.cells sc.names [])) fs
  have kt := jt s3 H3 s3.heap.objs.size (cellsFrom (s3.heap.objs.size + 1) sc.names (cloFrom X.env.cells sc.names [])) fs
  have ke := je s3 H3 s3.heap.objs.size (cellsFrom (s3.heap.objs.size + 1) sc.names (cloFrom X.env.cells sc.names [])) fs
  show codeAny _ _ (.compStart (.SetComp el [⟨tg, it, cs, 0⟩] sc p0) 0 (.ref ia) (.ref S) (compEnvC sc (cellsFrom (s3.heap.objs.size + 1) sc.names (cloFrom X.env.cells sc.names [])) s3.heap.objs.size X.env))
    (compPost (model X.prog X.w) X.A X.xe use Qf (.ref S) s3.heap.objs.size) { s3 with heap := pushCells (s3.heap.push { cls := .type "dict", data := .dict #[] }) sc.names }
  have none3 : ∀ b ∈ fs, H3 b = none := fun b hb => (f3 b hb).1.1
  generalize ee : compEnvC sc (cellsFrom (s3.heap.objs.size + 1) sc.names (cloFrom X.env.cells sc.names [])) s3.heap.objs.size X.env = en at I4 kg kt ke ⊢
  have loc : en.locals = s3.heap.objs.size := by rw [← ee]; rfl
  generalize e4 : ({ s3 with heap := pushCells (s3.heap.push { cls := .type "dict", data := .dict #[] }) sc.names } : Shared) = s4 at I4 ⊢
  have st4 : tn 0 s4.heap := T.keep _ _ _ st3 fun b _ o e => by rw [← e4]; exact pushCells_keeps _ _ _ _ (Heap.get?_push_of_some _ e)
  have still : ∀ {τ : L2.St} {G : Hp} {u : Shared}, Inv (X.blk s3 H3 sc en fs) [] τ G u → (∀ b ∈ fs, G b = none) → ∀ b ∈ fs, FpOk (X.blk s3 H3 sc en fs) [] G b := fun {τ G u} J' z b hb =>
    ⟨z b hb, (J'.ok.exf b hb).1, J'.ok.exfs b hb, .inl hb, fun x c e => (J'.ok.exf b hb).2 x c e, fun p hp => absurd (show p ∈ ([] : List (Addr × Obj)) ++ [] from hp) (by simp)⟩
  have loop : codeAny (model X.prog X.w) X.A (.compLoop (.SetComp el [⟨tg, it, cs, 0⟩] sc p0) 0 (.ref ia) (.ref S) en) (compPost (model X.prog X.w) X.A X.xe use Qf (.ref S) s3.heap.objs.size) s4 := by
    refine PpSet.compLoopS_any (fun n u => ∃ i G, Inv (X.blk s3 H3 sc en fs) [] (wipe σ (own.map (·.2))) G u ∧ tn i u.heap ∧ (∀ b ∈ fs, G b = none) ∧ W i n G) ?_ m0 ⟨0, H3, I4, st4, none3, w0⟩
    rintro n s5 ⟨i, H5, I5, st5, n5, w5⟩
    rcases turn i n H5 w5 with ⟨stop, qq⟩ | ⟨go, Nx, hNx, step⟩
    · refine thnF (T.done (X.blk s3 H3 sc en fs) rfl rfl rfl cm i [] s5 _ H5 (fun _ _ => False) I5 (still I5 n5) st5 stop) fun r s6 ⟨er, I6⟩ => ?_
      subst er
      have I7 : Inv X pins σ H5 s6 := I3.call' (ch := fs) I6.os I6.base I6.hok I6.bare fun b hb => ⟨(f3 b hb).1.2.2.2.1, (f3 b hb).1.2.1, (f3 b hb).1.2.2.2.2.1, (f3 b hb).1.2.2.2.2.2⟩
      have fr6 : H5 en.locals = none := I6.free
      obtain ⟨n6, l6, _⟩ := I6.loc
      have l6 : s6.heap.Ns en.locals n6 := l6
      rw [loc] at fr6 l6
      exact out S s3.heap.objs.size s6 n6 H5 I7 qq l6 (I3.fpOk (Nat.le_refl _) fr6)
    · refine thnF (T.item (X.blk s3 H3 sc en fs) rfl rfl rfl cm i [] s5 _ H5 (fun _ _ => False) I5 (still I5 n5) st5 go) fun r s6 ⟨u, er, h6⟩ => ?_
      subst er
      refine thnF h6 fun _ s7 ⟨x, H7, I7, r7, y7, st7, n7⟩ => ?_
      have I7' := I7.pinned (still I7 n7) (T.obj _ _ st7)
      refine thnF (kg.run _ s7 _ H7 x u _ I7' r7 (step x H7 y7)) fun _ s8 ⟨σ8, H8, I8, w8, q8⟩ => ?_
      refine thnF (kt.run _ s8 σ8 H8 _ I8 q8) fun b s9 ⟨H9, I9, q9⟩ => ?_
      have back : ∀ {u : Shared} {G : Hp}, Inv (X.blk s3 H3 sc en fs) ([] ++ pinsAt fs s7.heap) σ8 G u → Nx G → ∃ m, m < n ∧ ∃ i G, Inv (X.blk s3 H3 sc en fs) [] (wipe σ (own.map (·.2))) G u ∧ tn i u.heap ∧ (∀ b ∈ fs, G b = none) ∧ W i m G := fun {u G} J' nx => by
        obtain ⟨m', lt, w'⟩ := hNx G nx
        have pn : ∀ b ∈ fs, ∀ o, s7.heap.get? b = some o → u.heap.get? b = some o ∧ G b = none := fun b hb o e => by
          have z := J'.pin (b, o) (List.mem_append_right _ (List.mem_append_right _ (mem_pinsAt hb e)))
          exact ⟨z.1, z.2.1⟩
        refine ⟨m', lt, i + 1, G, (J'.unpinned (pins := [])).weak (by rw [← w8, wipe_length]) (fun j v e => ?_), T.keep _ _ _ st7 fun b hb o e => (pn b hb o e).1, fun b hb => ?_, w'⟩
        · rw [← w8] at e
          exact (wipe_some e).1
        · obtain ⟨o, e, _⟩ := T.obj _ _ st7 b hb
          exact (pn b hb o e).2
      cases b with
      | false =>
        simp only [Bool.false_eq_true, if_false] at q9 ⊢
        exact back I9 q9
      | true =>
        simp only [if_true] at q9 ⊢
        refine thnF (ke.run _ s9 σ8 H9 _ I9 q9) fun z s10 ⟨y, H10, I10, r10, L, k, a1, a2, a3, a4, nx⟩ => ?_
        exact sadd_V (X := X.blk s3 H3 sc en fs) (p := (y, k)) I10 a1 a2 a3 r10 hu a4 fun L' u c1 c2 I11 => back I11 (nx L' c1 c2)
  exact codeAny_compStart_set loop (T.self X.A 0 _ _ _ st4 loop)
/-- as a value -/
theorem pe_sk {el tg it : Expr} {cs : List Expr} {sc : Scope} {own : List (PySem.Str × Nat)} {p0 : Pos} {wi : TI} {g : TG} {tt : TT} {te : TE} (cm : X.calm = true) (nN : X.N.Nodup) (hu : X.A.units + 64 < cLine) (hi : PI X tg it wi) (bo : BlkOk X.N X.env.scope sc own)
    (jg : ∀ (s0 : Shared) (H0 : Hp) (C : Addr) (cl : List (PySem.Str × Addr)) (fs : List Addr), PG (X.blk s0 H0 sc (compEnvC sc cl C X.env) fs) tg g)
    (jt : ∀ (s0 : Shared) (H0 : Hp) (C : Addr) (cl : List (PySem.Str × Addr)) (fs : List Addr), PTs (X.blk s0 H0 sc (compEnvC sc cl C X.env) fs) cs tt)
    (je : ∀ (s0 : Shared) (H0 : Hp) (C : Addr) (cl : List (PySem.Str × Addr)) (fs : List Addr), PE (X.blk s0 H0 sc (compEnvC sc cl C X.env) fs) el te) (nf : ∀ x, foldedSetIterable it X.env x = pure x) :
    PE X (.SetComp el [⟨tg, it, cs, 0⟩] sc p0) (tSk X.K X.w wi g tt te (own.map (·.2))) := by
  refine ⟨fun pins s σ H Q I h => ?_⟩
  rw [arm_eval_SetComp]
  refine sk_core cm nN hu I hi bo jg jt je nf h fun S C s1 n H1 I1 q l f => ⟨n, l, fun h2 sb => ?_⟩
  obtain ⟨f0, f1, f2, f3, f4, f5⟩ := f
  exact ⟨.ref S, H1, I1.turned (t' := s1.toks) (fun b o hb e => (sb.2 b hb).trans e) f0 f1 f3 f4 f5, rfl, q⟩
end
end Cv

/-! Cs12: what is sorted hangs on the items alone, not on their order. -/
namespace Cv
open PySem PySem.W PyProof.Rows
mutual
/-- signs tell alike data apart, whatever stands behind -/
theorem toks_inj : ∀ (x y : PyData), alike x y = true → ∀ l m, keyToks x ++ l = keyToks y ++ m → x = y ∧ l = m
  | .none, y, h, l, m, e => by
    cases y <;> simp [alike] at h
    exact ⟨rfl, by simpa [keyToks] using e⟩
  | .bool b, y, h, l, m, e => by
    cases y <;> simp [alike] at h
    rename_i c
    simp only [keyToks, List.cons_append, List.nil_append, List.cons.injEq, Sum.inl.injEq] at e
    refine ⟨?_, e.2⟩
    cases b <;> cases c <;> simp_all
  | .int i, y, h, l, m, e => by
    cases y <;> simp [alike] at h
    simp only [keyToks, List.cons_append, List.nil_append, List.cons.injEq, Sum.inl.injEq] at e
    exact ⟨by rw [e.1], e.2⟩
  | .str z, y, h, l, m, e => by
    cases y <;> simp [alike] at h
    simp only [keyToks, List.cons_append, List.nil_append, List.cons.injEq, Sum.inr.injEq] at e
    exact ⟨by rw [str_of_cps e.1], e.2⟩
  | .list xs, y, h, l, m, e => by
    cases y <;> simp [alike] at h
    simp only [keyToks] at e
    obtain ⟨h1, h2⟩ := toksAll_inj xs _ h l m e
    exact ⟨by rw [h1], h2⟩
  | .tuple xs, y, h, l, m, e => by
    cases y <;> simp [alike] at h
    simp only [keyToks] at e
    obtain ⟨h1, h2⟩ := toksAll_inj xs _ h l m e
    exact ⟨by rw [h1], h2⟩
  | .dict _, y, h, l, m, e => by cases y <;> simp [alike] at h
theorem toksAll_inj : ∀ (xs ys : List PyData), alikeAll xs ys = true → ∀ l m, keyToksAll xs ++ l = keyToksAll ys ++ m → xs = ys ∧ l = m
  | [], [], h, l, m, e => ⟨rfl, by simpa [keyToksAll] using e⟩
  | [], y :: ys, h, l, m, e => by simp [keyToksAll] at e
  | x :: xs, [], h, l, m, e => by simp [keyToksAll] at e
  | x :: xs, y :: ys, h, l, m, e => by
    rw [alikeAll, Bool.and_eq_true] at h
    simp only [keyToksAll, List.cons_append, List.cons.injEq, true_and, List.append_assoc] at e
    obtain ⟨h1, h2⟩ := toks_inj x y h.1 _ _ e
    obtain ⟨h3, h4⟩ := toksAll_inj xs ys h.2 l m h2
    exact ⟨by rw [h1, h3], h4⟩
end
section
variable {β : Type} {enc : β → PyData}
theorem le_anti {x y : β} (h : alike (enc x) (enc y) = true) (h1 : dataLe false enc x y = true) (h2 : dataLe false enc y x = true) : enc x = enc y := by
  have a : lexLt itemOrd (keyToks (enc y)) (keyToks (enc x)) = false := by
    have : (!lexLt itemOrd (keyToks (enc y)) (keyToks (enc x))) = true := h1
    simpa using this
  have b : lexLt itemOrd (keyToks (enc x)) (keyToks (enc y)) = false := by
    have : (!lexLt itemOrd (keyToks (enc x)) (keyToks (enc y))) = true := h2
    simpa using this
  have e := lex_total (O := itemOrd) _ _ b a
  exact (toks_inj _ _ h [] [] (by rw [List.append_nil, List.append_nil]; exact e)).1
theorem le_tot (x y : β) : (dataLe false enc x y || dataLe false enc y x) = true := by
  show (!lexLt itemOrd (keyToks (enc y)) (keyToks (enc x)) || !lexLt itemOrd (keyToks (enc x)) (keyToks (enc y))) = true
  cases h : lexLt itemOrd (keyToks (enc y)) (keyToks (enc x)) with
  | false => rfl
  | true =>
    cases h2 : lexLt itemOrd (keyToks (enc x)) (keyToks (enc y)) with
    | false => rfl
    | true =>
      have := lex_trans (O := itemOrd) _ _ _ h h2
      rw [lex_irrefl] at this
      cases this
theorem le_tr (x y z : β) (h1 : dataLe false enc x y = true) (h2 : dataLe false enc y z = true) : dataLe false enc x z = true := by
  have a : (!lexLt itemOrd (keyToks (enc y)) (keyToks (enc x))) = true := h1
  have b : (!lexLt itemOrd (keyToks (enc z)) (keyToks (enc y))) = true := h2
  show (!lexLt itemOrd (keyToks (enc z)) (keyToks (enc x))) = true
  cases h : lexLt itemOrd (keyToks (enc z)) (keyToks (enc x)) with
  | false => rfl
  | true =>
    rcases lex_negTrans (O := itemOrd) _ (keyToks (enc y)) _ h with q | q
    · rw [q] at b
      cases b
    · rw [q] at a
      cases a
/-- in whatever order they came -/
theorem srt_perm {xs ys : List β} (p : xs.Perm ys) (al : AllAlike (ys.map enc)) (inj : ∀ x ∈ ys, ∀ y ∈ ys, enc x = enc y → x = y) : xs.mergeSort (dataLe false enc) = ys.mergeSort (dataLe false enc) := by
  refine List.Perm.eq_of_pairwise (le := fun a b => dataLe false enc a b = true) (fun a b ha hb h1 h2 => ?_) (List.pairwise_mergeSort le_tr le_tot _) (List.pairwise_mergeSort le_tr le_tot _) ((List.mergeSort_perm _ _).trans (p.trans (List.mergeSort_perm _ _).symm))
  have a1 : a ∈ ys := p.mem_iff.mp ((List.mergeSort_perm _ _).mem_iff.mp ha)
  have b1 : b ∈ ys := (List.mergeSort_perm _ _).mem_iff.mp hb
  exact inj a a1 b b1 (le_anti (al _ (List.mem_map_of_mem a1) _ (List.mem_map_of_mem b1)) h1 h2)
end
end Cv

/-! Cs13: dicts, their keys all tuples, or all texts and numbers: what holds of the object. -/
namespace Cv
open PySem PySem.Spec PyProof.Rows L2

/-- an entry: the key as a value, what it is, the value -/
abbrev En3 := Value × NestedKey × Value
def entK (w : World) (p : En3) : DictEntry := ⟨p.2.1.hash w, p.1, p.2.2⟩
structure DicO (w : World) (h : Heap) (a : Addr) (L : List En3) : Prop where
  sys : (a == sysModules) = false
  ob : ∃ o es ep, h.get? a = some o ∧ o.ExactDict ∧ o.data = .dict es ep ∧ es.toList = L.map (entK w)
  nd : (L.map (·.2.1)).Nodup
theorem DicO.keep {w : World} {h h' : Heap} {a : Addr} {L : List En3} (x : DicO w h a L) (k : ∀ o, h.get? a = some o → h'.get? a = some o) : DicO w h' a L := by
  obtain ⟨o, es, ep, ho, r⟩ := x.ob
  exact ⟨x.sys, ⟨o, es, ep, k o ho, r⟩, x.nd⟩
theorem DicO.new {w : World} {h : Heap} {a : Addr} (hs : (a == sysModules) = false) (ho : h.get? a = some { cls := .type "dict", data := .dict #[] }) : DicO w h a [] := ⟨hs, ⟨_, #[], 0, ho, ⟨rfl, rfl, rfl⟩, rfl, rfl⟩, List.nodup_nil⟩
/-- what stands at a key -/
def valK {α β : Type} : List (α × NestedKey × β) → NestedKey → Option β
  | [], _ => none
  | p :: L, k => if p.2.1 = k then some p.2.2 else valK L k
/-- another value at a key, or one more entry -/
def putN {α β : Type} (L : List (α × NestedKey × β)) (x : α) (k : NestedKey) (v : β) : List (α × NestedKey × β) :=
  if (valK L k).isSome then L.map (fun p => if p.2.1 = k then (p.1, p.2.1, v) else p) else L ++ [(x, k, v)]
theorem putN_len {α β : Type} (L : List (α × NestedKey × β)) (x : α) (k : NestedKey) (v : β) : (putN L x k v).length ≤ L.length + 1 := by
  unfold putN
  split
  · rw [List.length_map]; exact Nat.le_succ _
  · rw [List.length_append]; exact Nat.le_refl _
/-- keys that are tuples -/
def adr : Value → Addr
  | .ref b => b
  | _ => 0
def toH (L : List En3) : List (NestedKey × Addr × Value) := L.map fun p => (p.2.1, adr p.1, p.2.2)
def ofH (xs : List (NestedKey × Addr × Value)) : List En3 := xs.map fun x => (.ref x.2.1, x.1, x.2.2)
/-- keys that are texts, numbers -/
def kOf : NestedKey → Key
  | .num i => .inl i
  | .text z => .inr z
  | _ => .inl 0
theorem kOf_nk (k : Key) : kOf (nkOf k) = k := by cases k <;> rfl
def toM (L : List En3) : List (Key × Value) := L.map fun p => (kOf p.2.1, p.2.2)
section
variable {P : Program} {w : World} {h : Heap} {a : Addr} {L : List En3}
theorem toH_ref (hr : ∀ p ∈ L, ∃ b, p.1 = .ref b) : ofH (toH L) = L := by
  unfold ofH toH
  rw [List.map_map]
  refine (List.map_congr_left fun p hp => ?_).trans (List.map_id L)
  obtain ⟨b, e⟩ := hr p hp
  obtain ⟨v, k, x⟩ := p
  cases e
  rfl
theorem dicH (x : DicO w h a L) (al : ∀ p ∈ L, KyAt h (p.1, p.2.1) ∧ KyK true (p.1, p.2.1)) : h.DictOfH (nestedKind P w) a (toH L) := by
  obtain ⟨o, es, ep, ho, hx, hd, e⟩ := x.ob
  have hr : ∀ p ∈ L, ∃ b, p.1 = .ref b := fun p hp => by
    cases (al p hp).2 with
    | tup z => exact ⟨_, z⟩
  refine ⟨o, es, ep, ho, hx, hd, ?_, fun y hy => ?_, ?_⟩
  · rw [e]
    unfold toH
    rw [List.map_map]
    refine List.map_congr_left fun p hp => ?_
    obtain ⟨b, z⟩ := hr p hp
    obtain ⟨v, k, u⟩ := p
    cases z
    rfl
  · obtain ⟨p, hp, rfl⟩ := List.mem_map.mp hy
    obtain ⟨b, z⟩ := hr p hp
    have q := (al p hp).1
    obtain ⟨v, k, u⟩ := p
    cases z
    exact ⟨q.iz, q.dp⟩
  · unfold toH
    rw [List.map_map]
    exact x.nd
theorem dicH_of {xs : List (NestedKey × Addr × Value)} (hs : (a == sysModules) = false) (x : h.DictOfH (nestedKind P w) a xs) : DicO w h a (ofH xs) := by
  obtain ⟨o, es, ep, ho, hx, hd, e, _, nd⟩ := x
  refine ⟨hs, ⟨o, es, ep, ho, hx, hd, ?_⟩, ?_⟩
  · rw [e]
    unfold ofH
    rw [List.map_map]
    rfl
  · unfold ofH
    rw [List.map_map]
    exact nd
theorem kyS_of {p : Ky} (x : KyK false p) : KyS p := by
  cases x with
  | sc h => exact h
theorem dicM (x : DicO w h a L) (al : ∀ p ∈ L, KyK false (p.1, p.2.1)) : h.DictOf (mixKind P w) a (toM L) := by
  obtain ⟨o, es, ep, ho, hx, hd, e⟩ := x.ob
  have key : ∀ p ∈ L, keyIs (kOf p.2.1) p.1 = true ∧ p.2.1.hash w = keyH w (kOf p.2.1) := fun p hp => by
    obtain ⟨k, k1, k2⟩ := kyS_of (al p hp)
    have k2 : p.2.1 = nkOf k := k2
    rw [k2, kOf_nk]
    exact ⟨k1, kyS_hash w⟩
  refine ⟨o, es, ep, ho, hx, hd, fun y hy => ?_, ?_, ?_⟩
  · have hy : y ∈ es.toList := Array.mem_toList_iff.mpr hy
    rw [e] at hy
    obtain ⟨p, hp, rfl⟩ := List.mem_map.mp hy
    exact ⟨_, (key p hp).1, (key p hp).2⟩
  · rw [e]
    clear e al x
    induction L with
    | nil => exact .nil
    | cons p L ih => exact .cons (key p List.mem_cons_self).1 rfl (ih fun q hq => key q (List.mem_cons_of_mem _ hq))
  · have nd := x.nd
    have inj : (toM L).map (·.1) = (L.map (·.2.1)).map kOf := by
      unfold toM
      rw [List.map_map, List.map_map]
      rfl
    rw [inj]
    refine List.pairwise_map.mpr (List.Pairwise.imp_of_mem (fun {u v} hu hv ne z => ne ?_) nd)
    obtain ⟨p, p1, rfl⟩ := List.mem_map.mp hu
    obtain ⟨q, q1, rfl⟩ := List.mem_map.mp hv
    obtain ⟨k, _, k2⟩ := kyS_of (al p p1)
    obtain ⟨k', _, k2'⟩ := kyS_of (al q q1)
    have k2 : p.2.1 = nkOf k := k2
    have k2' : q.2.1 = nkOf k' := k2'
    rw [k2, k2', kOf_nk, kOf_nk] at z
    rw [k2, k2', z]
/-- .. and back -/
theorem dicM_of {kvs : List (Key × Value)} (hs : (a == sysModules) = false) (x : h.DictOf (mixKind P w) a kvs) : ∃ L', DicO w h a L' ∧ toM L' = kvs ∧ (L'.map (·.2.1)) = kvs.map (fun p => nkOf p.1) ∧ ∀ p ∈ L', KyS (p.1, p.2.1) := by
  obtain ⟨o, es, ep, ho, hx, hd, ks, pr, nd⟩ := x
  have hk : ∀ y ∈ es.toList, ∃ k, (mixKind P w).is k y.key = true ∧ y.hash = (mixKind P w).hash k := fun y hy => ks y (Array.mem_toList_iff.mp hy)
  have : ∃ L' : List En3, es.toList = L'.map (entK w) ∧ toM L' = kvs ∧ (L'.map (·.2.1)) = kvs.map (fun p => nkOf p.1) ∧ ∀ p ∈ L', KyS (p.1, p.2.1) := by
    clear nd hd
    generalize es.toList = l at pr hk
    induction pr with
    | nil => exact ⟨[], rfl, rfl, rfl, fun p hp => by cases hp⟩
    | @cons e kv l kvs h1 h2 _ ih =>
      obtain ⟨L', a1, a2, a3, a4⟩ := ih fun y hy => hk y (List.mem_cons_of_mem _ hy)
      obtain ⟨k, k1, k2⟩ := hk e List.mem_cons_self
      have ek : kv.1 = k := (mixKind P w).inj e.key _ _ h1 k1
      refine ⟨(e.key, nkOf kv.1, kv.2) :: L', ?_, ?_, ?_, fun p hp => ?_⟩
      · rw [List.map_cons, ← a1]
        congr 1
        obtain ⟨eh, ey, ev⟩ := e
        show (⟨eh, ey, ev⟩ : DictEntry) = ⟨(nkOf kv.1).hash w, ey, kv.2⟩
        rw [kyS_hash, ek]
        have k2 : eh = keyH w k := k2
        have h2 : ev = kv.2 := h2
        rw [k2, h2]
      · show (kOf (nkOf kv.1), kv.2) :: toM L' = kv :: kvs
        rw [kOf_nk, a2]
      · show nkOf kv.1 :: L'.map (·.2.1) = _
        rw [a3]
        rfl
      · rcases List.mem_cons.mp hp with z | z
        · rw [z]
          exact ⟨kv.1, h1, rfl⟩
        · exact a4 p z
  obtain ⟨L', a1, a2, a3, a4⟩ := this
  refine ⟨L', ⟨hs, ⟨o, es, ep, ho, hx, hd, a1⟩, ?_⟩, a2, a3, a4⟩
  rw [a3, show kvs.map (fun p => nkOf p.1) = (kvs.map (·.1)).map nkOf by rw [List.map_map]; rfl]
  exact List.pairwise_map.mpr (List.Pairwise.imp (fun ne e => ne (nkOf_inj e)) nd)
end
end Cv

/-! Cs14: dicts told by names: d[k], k in d, d.get(k, x), d[k] = v. -/
namespace Cv
open PySem PySem.Spec PyProof.Rows L2
section
variable {P : Program} {w : World} {L : List En3}
theorem val_H (k : NestedKey) : ∀ L : List En3, (atKey (toH L) k).map (·.2) = valK L k
  | [] => rfl
  | p :: L => by
    have ih := val_H k L
    unfold valK
    by_cases e : p.2.1 = k
    · rw [if_pos e]
      simp [atKey, toH, e]
    · rw [if_neg e, ← ih]
      simp [atKey, toH, e]
theorem val_M {key : Key} : ∀ {L : List En3}, (∀ p ∈ L, KyS (p.1, p.2.1)) → valueAt (toM L) key = valK L (nkOf key)
  | [], _ => rfl
  | p :: L, h => by
    have ih := val_M (key := key) (L := L) fun q hq => h q (List.mem_cons_of_mem _ hq)
    obtain ⟨k, _, k2⟩ := h p List.mem_cons_self
    have k2 : p.2.1 = nkOf k := k2
    have ek : kOf p.2.1 = k := by rw [k2, kOf_nk]
    unfold valK
    by_cases e : k = key
    · rw [if_pos (by rw [k2, e])]
      simp [valueAt, toM, ek, e]
    · rw [if_neg (by rw [k2]; exact fun z => e (nkOf_inj z)), ← ih]
      simp [valueAt, toM, ek, e]
theorem put_H (k : NestedKey) (b : Addr) (v : Value) (hr : ∀ p ∈ L, ∃ b, p.1 = .ref b) : ofH (storedH (toH L) k b v) = putN L (.ref b) k v := by
  have e1 : (atKey (toH L) k).isSome = (valK L k).isSome := by rw [← val_H k L, Option.isSome_map]
  unfold storedH putN
  rw [e1]
  split
  · unfold ofH toH
    rw [List.map_map, List.map_map]
    refine List.map_congr_left fun p hp => ?_
    obtain ⟨b, e⟩ := hr p hp
    obtain ⟨u, q, x⟩ := p
    cases e
    show (Value.ref (putAt k v (q, b, x)).2.1, (putAt k v (q, b, x)).1, (putAt k v (q, b, x)).2.2) = if q = k then (Value.ref b, q, v) else (Value.ref b, q, x)
    unfold putAt
    split <;> rfl
  · have := toH_ref hr
    unfold ofH at this ⊢
    rw [List.map_append, this]
    rfl
theorem put_M {key : Key} (x v : Value) (h : ∀ p ∈ L, KyS (p.1, p.2.1)) : stored (toM L) key v = toM (putN L x (nkOf key) v) := by
  have kk : ∀ p ∈ L, (kOf p.2.1 = key ↔ p.2.1 = nkOf key) := fun p hp => by
    obtain ⟨k, _, k2⟩ := h p hp
    have k2 : p.2.1 = nkOf k := k2
    rw [k2, kOf_nk]
    exact ⟨fun e => by rw [e], fun e => nkOf_inj e⟩
  have e1 : ((toM L).any fun kv => decide (kv.1 = key)) = (valK L (nkOf key)).isSome := by

    induction L with
    | nil => rfl
    | cons p L ih =>
      have ih := ih (fun q hq => h q (List.mem_cons_of_mem _ hq)) fun q hq => kk q (List.mem_cons_of_mem _ hq)
      unfold valK
      show (decide (kOf p.2.1 = key) || (toM L).any fun kv => decide (kv.1 = key)) = _
      by_cases e : p.2.1 = nkOf key
      · rw [if_pos e, decide_eq_true ((kk p List.mem_cons_self).2 e)]
        rfl
      · rw [if_neg e, decide_eq_false (fun z => e ((kk p List.mem_cons_self).1 z)), ih]
        rfl
  unfold stored putN
  rw [e1]
  split
  · unfold toM
    rw [List.map_map, List.map_map]
    refine List.map_congr_left fun p hp => ?_
    show (if kOf p.2.1 = key then (kOf p.2.1, v) else (kOf p.2.1, p.2.2)) = _
    by_cases e : p.2.1 = nkOf key
    · rw [if_pos ((kk p hp).2 e)]
      show _ = (kOf (if p.2.1 = nkOf key then (p.1, p.2.1, v) else p).2.1, (if p.2.1 = nkOf key then (p.1, p.2.1, v) else p).2.2)
      rw [if_pos e]
    · rw [if_neg fun z => e ((kk p hp).1 z)]
      show _ = (kOf (if p.2.1 = nkOf key then (p.1, p.2.1, v) else p).2.1, (if p.2.1 = nkOf key then (p.1, p.2.1, v) else p).2.2)
      rw [if_neg e]
  · unfold toM
    rw [List.map_append]
    show _ = _ ++ [(kOf (nkOf key), v)]
    rw [kOf_nk]
end
abbrev Ev3 := V × NestedKey × V
inductive EP : List Ev3 → List En3 → Prop
  | nil : EP [] []
  | cons {y : V} {u : Value} {k : NestedKey} {v : V} {r : Value} {ps : List Ev3} {qs : List En3} : RelV y u → RelV v r → EP ps qs → EP ((y, k, v) :: ps) ((u, k, r) :: qs)
theorem EP.val (k : NestedKey) : ∀ {ps : List Ev3} {qs : List En3}, EP ps qs → RelO (valK ps k) (valK qs k)
  | _, _, .nil => True.intro
  | _, _, .cons (k := k') _ r t => by
    unfold valK
    by_cases e : k' = k
    · rw [if_pos e, if_pos e]; exact r
    · rw [if_neg e, if_neg e]; exact t.val k
theorem EP.some (k : NestedKey) {ps : List Ev3} {qs : List En3} (x : EP ps qs) : (valK ps k).isSome = (valK qs k).isSome := (x.val k).isSome_eq
theorem EP.app : ∀ {ps ps' : List Ev3} {qs qs' : List En3}, EP ps qs → EP ps' qs' → EP (ps ++ ps') (qs ++ qs')
  | _, _, _, _, .nil, y => y
  | _, _, _, _, .cons a b t, y => .cons a b (t.app y)
theorem EP.set {k : NestedKey} {v : V} {r : Value} (rv : RelV v r) : ∀ {ps : List Ev3} {qs : List En3}, EP ps qs → EP (ps.map fun p => if p.2.1 = k then (p.1, p.2.1, v) else p) (qs.map fun p => if p.2.1 = k then (p.1, p.2.1, r) else p)
  | _, _, .nil => .nil
  | _, _, .cons (k := k') (v := v') (r := r') a b t => by
    rw [List.map_cons, List.map_cons]
    by_cases e : k' = k
    · rw [if_pos e, if_pos e]; exact .cons a rv (t.set rv)
    · rw [if_neg e, if_neg e]; exact .cons a b (t.set rv)
theorem EP.put {k : NestedKey} {y v : V} {u r : Value} {ps : List Ev3} {qs : List En3} (x : EP ps qs) (ry : RelV y u) (rv : RelV v r) : EP (putN ps y k v) (putN qs u k r) := by
  unfold putN
  rw [x.some k]
  split
  · exact x.set rv
  · exact x.app (.cons ry rv .nil)
theorem EP.len : ∀ {ps : List Ev3} {qs : List En3}, EP ps qs → ps.length = qs.length
  | _, _, .nil => rfl
  | _, _, .cons _ _ t => by rw [List.length_cons, List.length_cons, t.len]
theorem EP.left : ∀ {ps : List Ev3} {qs : List En3}, EP ps qs → ∀ q ∈ qs, ∃ p ∈ ps, RelV p.1 q.1 ∧ p.2.1 = q.2.1
  | _, _, .cons (y := y) (k := k) (v := v) a b t, q, h => by
    rcases List.mem_cons.mp h with z | z
    · exact ⟨(y, k, v), List.mem_cons_self, by rw [z]; exact a, by rw [z]⟩
    · obtain ⟨p, h1, h2⟩ := t.left q z
      exact ⟨p, List.mem_cons_of_mem _ h1, h2⟩
/-- texts, numbers: whichever value holds the key -/
theorem EP.rekey : ∀ {ps : List Ev3} {qs rs : List En3}, EP ps qs → rs.map (·.2) = qs.map (·.2) → (∀ p ∈ rs, KyS (p.1, p.2.1)) → (∀ p ∈ ps, ∃ k : Key, p.1 = kV k ∧ p.2.1 = nkOf k) → EP ps rs
  | _, _, [], .nil, _, _, _ => .nil
  | _, _, _ :: _, .nil, h, _, _ => nomatch h
  | _, _, [], .cons _ _ _, h, _, _ => nomatch h
  | _, _, (u', k', r') :: rs, .cons (y := y) (k := k) (r := r) a b t, h, hs, hp => by
    simp only [List.map_cons, List.cons.injEq, Prod.mk.injEq] at h
    obtain ⟨⟨h1, h2⟩, h3⟩ := h
    subst h1 h2
    obtain ⟨key, e1, e2⟩ := hp _ List.mem_cons_self
    obtain ⟨key', f1, f2⟩ := hs _ List.mem_cons_self
    have e1 : y = kV key := e1
    have e : key = key' := nkOf_inj (e2.symm.trans f2)
    refine .cons ?_ b (t.rekey h3 (fun p hq => hs p (List.mem_cons_of_mem _ hq)) fun p hq => hp p (List.mem_cons_of_mem _ hq))
    rw [e1, e]
    exact relV_key f1
/-- the dict at a -/
def DcV (w : World) (a : Addr) (L : List Ev3) : HO := .ext fun h => ∃ L' : List En3, EP L L' ∧ DicO w h a L'
theorem dcV_ok {P : Program} {w : World} {H : Hp} {h : Heap} {a : Addr} {L : List Ev3} {L' : List En3} (x : EP L L') (R : DicO w h a L') : ObjOk P w H h a (DcV w a L) := by
  obtain ⟨o, es, ep, ho, _⟩ := R.ob
  refine ⟨⟨L', x, R⟩, ⟨o, ho⟩, fun h1 h2 p k => ?_⟩
  obtain ⟨L2, x2, R2⟩ := p
  exact ⟨L2, x2, R2.keep k⟩
/-- a dict at a: it may grow, or it stays as it is -/
def DcAt (w : World) (H : Hp) (a : Addr) (L : List Ev3) : Prop := H a = some (DcV w a L) ∨ ∃ o, H a = some (.frz o (DcV w a L))
theorem DcAt.mono {w : World} {F F' : Hp} {a : Addr} {L : List Ev3} (h : ∀ a o, F a = some o → F' a = some o) (x : DcAt w F a L) : DcAt w F' a L := by
  rcases x with x | ⟨o, x⟩
  · exact .inl (h _ _ x)
  · exact .inr ⟨o, h _ _ x⟩
/-- a new dict: one that may grow, or one that stays -/
def NewD (w : World) (H : Hp) (Q : VK) (L : List Ev3) : Prop := (∀ p, H p = none → Q (.ref p) (upd H p (DcV w p L))) ∨ ∀ p o, H p = none → Q (.ref p) (upd H p (.frz o (DcV w p L)))
end Cv

/-! Cs15: d[k], k in d, d.get(k, x), d[k] = v. -/
namespace Cv
open PySem PySem.Spec PyProof.Rows L2
/-- the keys of a dict, as the names know them -/
def KeysV (K : PySem.W.Frag) (H : Hp) (m : Bool) (L : List Ev3) : Prop := ∀ p ∈ L, KvAt K H m (p.1, p.2.1)
section
variable {X : Cx} {pins : List (Addr × Obj)} {σ : L2.St} {H : Hp} {s : Shared} {a : Addr} {m : Bool} {L : List Ev3} {y v d : V} {k : NestedKey} {u r : Value} {A : Around} {E : Value → Shared → Prop}
theorem dcV_get (I : Inv X pins σ H s) (h : DcAt X.w H a L) : ∃ L' : List En3, EP L L' ∧ DicO X.w s.heap a L' := by
  rcases h with h | ⟨o, h⟩
  · exact (I.hok a _ h).1
  · exact (I.hok a _ h).2.1
theorem ep_keys (I : Inv X pins σ H s) {L' : List En3} (x : EP L L') (hk : KeysV X.K H m L) : ∀ p ∈ L', KyAt s.heap (p.1, p.2.1) ∧ KyK m (p.1, p.2.1) := fun p hp => by
  obtain ⟨q, q1, q2, q3⟩ := x.left p hp
  have z := kv_ky I (hk q q1) q2
  rw [q3] at z
  exact z
theorem dc_type (I : Inv X pins σ H s) (h : DcAt X.w H a L) : s.TypeIs (.ref a) "dict" := by
  obtain ⟨L', _, R⟩ := dcV_get I h
  obtain ⟨o, es, ep, ho, hx, _⟩ := R.ob
  exact ⟨o, ho, hx.1⟩
theorem dc_noDict (I : Inv X pins σ H s) (h : DcAt X.w H a L) : ∀ b, Value.ref a = .ref b → ∃ ob, s.heap.get? b = some ob ∧ ob.dict = none := by
  obtain ⟨L', _, R⟩ := dcV_get I h
  obtain ⟨o, es, ep, ho, hx, _⟩ := R.ob
  intro b e
  cases e
  exact ⟨o, ho, hx.2.1⟩
theorem dc_get {Q : Value → Shared → Prop} (hu : A.units + 64 < cLine) (I : Inv X pins σ H s) (h : DcAt X.w H a L) (hk : KeysV X.K H m L) (hy : KvAt X.K H m (y, k)) (ry : RelV y u) (hv : valK L k = some v)
    (q : ∀ w' s', Inv X pins σ H s' → RelV v w' → Q w' s') : wpAny (model X.prog X.w) A (getItem (.ref a) u) Q E s := by
  obtain ⟨L', x, R⟩ := dcV_get I h
  have al := ep_keys I x hk
  have ky := kv_ky I hy ry
  obtain ⟨w', hw, rw'⟩ := RelO.some_of (v := v) (o := valK L' k) (by rw [← hv]; exact x.val k)
  cases m with
  | true =>
    have dd := dicH (P := X.prog) R al
    cases ky.2 with
    | @tup _ b z =>
      have z : u = .ref b := z
      subst z
      refine getItem_keyed (knd := nestedKind X.prog X.w) (k := k) (kvs := pairsH (toH L')) (by show A.in1.units + 8 < cLine; simp only [Around.in1_units]; omega) ⟨ky.1.iz, ky.1.dp⟩ ⟨_, dd, rfl⟩ (v := w') ?_ (q w' _ (I.tok _) rw')
      rw [valueAt_pairsH, val_H]
      exact hw
  | false =>
    have al2 : ∀ p ∈ L', KyK false (p.1, p.2.1) := fun p hp => (al p hp).2
    have dd := dicM (P := X.prog) R al2
    obtain ⟨key, k1, k2⟩ := kyS_of ky.2
    have k2 : k = nkOf key := k2
    refine wpAny_getItem_of (knd := mixKind X.prog X.w) k1 dd.mapOf (v := w') ?_ (q w' _ (I.tok _) rw')
    rw [val_M fun p hp => kyS_of (al2 p hp), ← k2]
    exact hw
theorem dc_in {Q : Value → Shared → Prop} (hu : A.units + 64 < cLine) (I : Inv X pins σ H s) (h : DcAt X.w H a L) (hk : KeysV X.K H m L) (hy : KvAt X.K H m (y, k)) (ry : RelV y u)
    (q : ∀ s', Inv X pins σ H s' → Q (.bool (valK L k).isSome) s') : wpAny (model X.prog X.w) A (compareOp .In u (.ref a)) Q E s := by
  obtain ⟨L', x, R⟩ := dcV_get I h
  have al := ep_keys I x hk
  have ky := kv_ky I hy ry
  rw [x.some k] at q
  cases m with
  | true =>
    have dd := dicH (P := X.prog) R al
    cases ky.2 with
    | @tup _ b z =>
      have z : u = .ref b := z
      subst z
      refine in_keyed (knd := nestedKind X.prog X.w) (k := k) (kvs := pairsH (toH L')) (by show A.in1.units + 8 < cLine; simp only [Around.in1_units]; omega) ⟨ky.1.iz, ky.1.dp⟩ R.sys ⟨_, dd, rfl⟩ ?_
      rw [valueAt_pairsH, val_H]
      exact q _ (I.tok _)
  | false =>
    have al2 : ∀ p ∈ L', KyK false (p.1, p.2.1) := fun p hp => (al p hp).2
    have dd := dicM (P := X.prog) R al2
    obtain ⟨key, k1, k2⟩ := kyS_of ky.2
    have k2 : k = nkOf key := k2
    refine wpAny_in_of (knd := mixKind X.prog X.w) k1 R.sys dd.mapOf ?_
    rw [val_M fun p hp => kyS_of (al2 p hp), ← k2]
    exact q _ (I.tok _)
theorem dc_notIn {Q : Value → Shared → Prop} (hu : A.units + 64 < cLine) (I : Inv X pins σ H s) (h : DcAt X.w H a L) (hk : KeysV X.K H m L) (hy : KvAt X.K H m (y, k)) (ry : RelV y u)
    (q : ∀ s', Inv X pins σ H s' → Q (.bool (!(valK L k).isSome)) s') : wpAny (model X.prog X.w) A (compareOp .NotIn u (.ref a)) Q E s := by
  obtain ⟨L', x, R⟩ := dcV_get I h
  have al := ep_keys I x hk
  have ky := kv_ky I hy ry
  rw [x.some k] at q
  cases m with
  | true =>
    have dd := dicH (P := X.prog) R al
    cases ky.2 with
    | @tup _ b z =>
      have z : u = .ref b := z
      subst z
      refine notIn_keyed (knd := nestedKind X.prog X.w) (k := k) (kvs := pairsH (toH L')) (by show A.in1.units + 8 < cLine; simp only [Around.in1_units]; omega) ⟨ky.1.iz, ky.1.dp⟩ R.sys ⟨_, dd, rfl⟩ ?_
      rw [valueAt_pairsH, val_H]
      exact q _ (I.tok _)
  | false =>
    have al2 : ∀ p ∈ L', KyK false (p.1, p.2.1) := fun p hp => (al p hp).2
    have dd := dicM (P := X.prog) R al2
    obtain ⟨key, k1, k2⟩ := kyS_of ky.2
    have k2 : k = nkOf key := k2
    refine wpAny_notIn_of (knd := mixKind X.prog X.w) k1 R.sys dd.mapOf ?_
    rw [val_M fun p hp => kyS_of (al2 p hp), ← k2]
    exact q _ (I.tok _)
theorem dc_get2 {Q : Value → Shared → Prop} (hu : A.units + 64 < cLine) (I : Inv X pins σ H s) (h : DcAt X.w H a L) (hk : KeysV X.K H m L) (hy : KvAt X.K H m (y, k)) (ry : RelV y u) (rd : RelV d r)
    (q : ∀ w' s', Inv X pins σ H s' → RelV ((valK L k).getD d) w' → Q w' s') : wpAny (model X.prog X.w) A (call (.builtin "dict.get") [.ref a, u, r]) Q E s := by
  obtain ⟨L', x, R⟩ := dcV_get I h
  have al := ep_keys I x hk
  have ky := kv_ky I hy ry
  have rel := (x.val k).getD rd
  cases m with
  | true =>
    have dd := dicH (P := X.prog) R al
    cases ky.2 with
    | @tup _ b z =>
      have z : u = .ref b := z
      subst z
      refine getOr_keyed (knd := nestedKind X.prog X.w) (k := k) (kvs := pairsH (toH L')) (by show A.in1.units + 8 < cLine; simp only [Around.in1_units]; omega) ⟨ky.1.iz, ky.1.dp⟩ R.sys ⟨_, dd, rfl⟩ ?_
      rw [valueAt_pairsH, val_H]
      exact q _ _ (I.tok _) rel
  | false =>
    have al2 : ∀ p ∈ L', KyK false (p.1, p.2.1) := fun p hp => (al p hp).2
    have dd := dicM (P := X.prog) R al2
    obtain ⟨key, k1, k2⟩ := kyS_of ky.2
    have k2 : k = nkOf key := k2
    refine call_meetsIn PySem.F.slot_dict_get dd.typeIs PySem.F.entry_dict_get (PySem.F.args_dict_get_3 _ _ _) (meets_dict_get_default (mixKind X.prog X.w) a k1 R.sys r) ⟨_, dd.mapOf, ?_⟩
    rw [val_M fun p hp => kyS_of (al2 p hp), ← k2]
    exact q _ _ (I.tok _) rel
theorem dc_set {Q : Unit → Shared → Prop} (hu : A.units + 64 < cLine) (I : Inv X pins σ H s) (h : H a = some (DcV X.w a L)) (hk : KeysV X.K H m L) (hy : KvAt X.K H m (y, k)) (ry : RelV y u) (rv : RelV v r) (hz : L.length < sizeLine)
    (q : ∀ s', Inv X pins σ (upd H a (DcV X.w a (putN L y k v))) s' → Q () s') : wpAny (model X.prog X.w) A (setItem (.ref a) u r) Q E s := by
  obtain ⟨L', x, R⟩ := dcV_get I (.inl h)
  have al := ep_keys I x hk
  have ky := kv_ky I hy ry
  have len := x.len
  have fin : ∀ {h' : Heap} {t : Nat} {L2 : List En3}, EP (putN L y k v) L2 → DicO X.w h' a L2 → Heap.SameBut a s.heap h' → Q () { s with heap := h', toks := t } := fun {h' t L2} x2 R2 hs => by
    obtain ⟨o, es, ep, ho, _⟩ := id R2.ob
    exact q _ (d_write (t' := t) I (by rw [h]; exact True.intro) hs ⟨o, ho⟩ (dcV_ok x2 R2))
  cases m with
  | true =>
    have dd := dicH (P := X.prog) R al
    have hr : ∀ p ∈ L', ∃ b, p.1 = .ref b := fun p hp => by
      cases (al p hp).2 with
      | tup z => exact ⟨_, z⟩
    cases ky.2 with
    | @tup _ b z =>
      have z : u = .ref b := z
      subst z
      refine wpAny_setItem_heap (knd := nestedKind X.prog X.w) (k := k) (hsz := by unfold toH; rw [List.length_map]; omega) (by show A.in1.units + 8 < cLine; simp only [Around.in1_units]; omega) ⟨ky.1.iz, ky.1.dp⟩ dd fun h' dd' hs => ?_
      have R2 := dicH_of R.sys dd'
      rw [put_H k b r hr] at R2
      exact fin (x.put ry rv) R2 hs
  | false =>
    have al2 : ∀ p ∈ L', KyS (p.1, p.2.1) := fun p hp => kyS_of (al p hp).2
    have dd := dicM (P := X.prog) R fun p hp => (al p hp).2
    obtain ⟨key, k1, k2⟩ := kyS_of ky.2
    have k2 : k = nkOf key := k2
    refine wpAny_setItem_pairs (knd := mixKind X.prog X.w) (hsz := by unfold toM; rw [List.length_map]; omega) k1 dd fun h' dd' hs => ?_
    obtain ⟨L2, R2, a1, a2, a3⟩ := dicM_of R.sys dd'
    rw [put_M u r al2, ← k2] at a1 a2
    have pk : ∀ p ∈ putN L' u k r, ∃ key : Key, p.2.1 = nkOf key := fun p hp => by
      unfold putN at hp
      split at hp
      · obtain ⟨z, z1, rfl⟩ := List.mem_map.mp hp
        obtain ⟨kz, _, kz2⟩ := al2 z z1
        split
        · exact ⟨kz, kz2⟩
        · exact ⟨kz, kz2⟩
      · rcases List.mem_append.mp hp with z | z
        · obtain ⟨kz, _, kz2⟩ := al2 p z
          exact ⟨kz, kz2⟩
        · rw [List.mem_singleton.mp z]
          exact ⟨key, k2⟩
    have e2 : L2.map (·.2) = (putN L' u k r).map (·.2) := by
      have b2 : L2.map (·.2.1) = (putN L' u k r).map (·.2.1) := by
        rw [a2]
        unfold toM
        rw [List.map_map]
        refine List.map_congr_left fun p hp => ?_
        obtain ⟨kz, kz2⟩ := pk p hp
        show nkOf (kOf p.2.1) = p.2.1
        rw [kz2, kOf_nk]
      clear a2 R2 a3 pk
      unfold toM at a1
      generalize putN L' u k r = N at a1 b2
      induction L2 generalizing N with
      | nil => cases N with
        | nil => rfl
        | cons => cases b2
      | cons p L2 ih => cases N with
        | nil => cases b2
        | cons n N =>
          simp only [List.map_cons, List.cons.injEq, Prod.mk.injEq] at a1 b2 ⊢
          exact ⟨Prod.ext b2.1 a1.1.2, ih N a1.2 b2.2⟩
    refine fin ((x.put ry rv).rekey e2 a3 fun p hp => ?_) R2 hs
    have srt : ∀ p ∈ L, ∃ k : Key, p.1 = kV k ∧ p.2.1 = nkOf k := fun p hp => (hk p hp).sort
    unfold putN at hp
    split at hp
    · obtain ⟨z, z1, rfl⟩ := List.mem_map.mp hp
      obtain ⟨kz, e1, e2⟩ := srt z z1
      split
      · exact ⟨kz, e1, e2⟩
      · exact ⟨kz, e1, e2⟩
    · rcases List.mem_append.mp hp with z | z
      · exact srt p z
      · rw [List.mem_singleton.mp z]
        exact hy.sort
/-- a dict that grows stays as it is from here on -/
theorem dc_lock (I : Inv X pins σ H s) (h : H a = some (DcV X.w a L)) : ∃ o, Inv X pins σ (upd H a (.frz o (DcV X.w a L))) s := by
  obtain ⟨L', x, R⟩ := dcV_get I (.inl h)
  obtain ⟨o, es, ep, ho, _⟩ := id R.ob
  exact ⟨o, d_write (t' := s.toks) I (by rw [h]; exact True.intro) (Heap.SameBut.refl _ _) ⟨o, ho⟩ (show ObjOk _ _ _ _ _ (.frz o (DcV X.w a L)) from ⟨ho, dcV_ok x R⟩)⟩
theorem new_d {Q : VK} {s' : Shared} (I : Inv X pins σ (upd H a (DcV X.w a L)) s') (hn : H a = none) (q : NewD X.w H Q L) : L2.EP X pins σ Q (.ref a) s' := by
  rcases q with q | q
  · exact ⟨.ref a, _, I, rfl, q a hn⟩
  · obtain ⟨o, I2⟩ := dc_lock I upd_same
    have e : upd (upd H a (DcV X.w a L)) a (.frz o (DcV X.w a L)) = upd H a (.frz o (DcV X.w a L)) := by
      funext b
      by_cases z : b = a
      · subst z; rw [upd_same, upd_same]
      · rw [upd_ne z, upd_ne z, upd_ne z]
    rw [e] at I2
    exact ⟨.ref a, _, I2, rfl, q a o hn⟩
end
end Cv

/-! Cs16: dicts in expressions and statements. -/
namespace Cv
open PySem PySem.Spec PyProof.Rows L2
/-- a key asked of a dict -/
structure Ask (K : PySem.W.Frag) (w : World) (H : Hp) (a : Addr) (m : Bool) (L : List Ev3) (y : V) (k : NestedKey) : Prop where
  at_ : DcAt w H a L
  keys : KeysV K H m L
  key : KvAt K H m (y, k)
def rDcIx (K : PySem.W.Frag) (w : World) : R2 := fun x y H Q => ∃ a m L k v, x = .ref a ∧ Ask K w H a m L y k ∧ valK L k = some v ∧ Q v H
section
variable {X : Cx}
theorem ix_dc (hu : X.A.units + 64 < cLine) : IxR X (rDcIx X.K X.w) := by
  intro value slice pins s σ H x y v u Q I rx ry h hs
  obtain ⟨a, m, L, k, z, rfl, g, hv, q⟩ := h
  obtain rfl : v = Value.ref a := rx
  refine tail_any (ops := [.ref a, u]) (dc_type I g.at_) (PySem.F.slot_dict_getitem.lookup) ?_ hs
  exact dc_get (by simpa using hu) I g.at_ g.keys g.key ry hv fun w' s' I' r' => ⟨z, H, I', r', q⟩
def rDcIn (K : PySem.W.Frag) (w : World) (neg : Bool) : R2 := fun y x H Q => ∃ a m L k, x = .ref a ∧ Ask K w H a m L y k ∧ Q (.bl (if neg then !(valK L k).isSome else (valK L k).isSome)) H
theorem op_dcIn (hu : X.A.units + 64 < cLine) : OpR X (compareOp .In) (rDcIn X.K X.w false) := by
  intro pins s σ H y x u v Q I ry rx h
  obtain ⟨a, m, L, k, rfl, g, q⟩ := h
  obtain rfl : v = Value.ref a := rx
  exact dc_in hu I g.at_ g.keys g.key ry fun s' I' => ⟨.bl (valK L k).isSome, H, I', rfl, q⟩
theorem op_dcNotIn (hu : X.A.units + 64 < cLine) : OpR X (compareOp .NotIn) (rDcIn X.K X.w true) := by
  intro pins s σ H y x u v Q I ry rx h
  obtain ⟨a, m, L, k, rfl, g, q⟩ := h
  obtain rfl : v = Value.ref a := rx
  exact dc_notIn hu I g.at_ g.keys g.key ry fun s' I' => ⟨.bl (!(valK L k).isSome), H, I', rfl, q⟩
/-- d.get(k, x) -/
def tDcGet2 (K : PySem.W.Frag) (w : World) (td ty tx : TE) : TE := fun σ H Q => td σ H fun x H1 => ∃ a L0, x = .ref a ∧ DcAt w H1 a L0 ∧ ty σ H1 fun y H2 => tx σ H2 fun z H3 => ∃ m L k, Ask K w H3 a m L y k ∧ Q ((valK L k).getD z) H3
variable {o e f i value : Expr} {apos cpos pos pos' : Pos} {td ty tx tv : TE}
theorem pe_dcget2 (hu : X.A.units + 64 < cLine) (ho : PE X o td) (he : PE X e ty) (hf : PE X f tx) (m : M2 X o "get" apos e f cpos) : PE X (.Call (.Attribute o "get" apos) [e, f] [] cpos) (tDcGet2 X.K X.w td ty tx) := by
  refine ⟨fun pins s σ H Q I h => ?_⟩
  refine wpAny_Call_method m.base m.few m.line PySem.F.plainAttrs_dict PySem.F.slot_dict_get PySem.F.type_dict_get (thn (ho.run pins s σ H _ I h) fun u s1 ⟨x, H1, I1, rx, a, L0, ex, d, q1⟩ => ?_)
  subst ex
  obtain rfl : u = Value.ref a := rx
  refine ⟨dc_type I1 d, dc_noDict I1 d, ?_⟩
  rw [m.trees]
  refine Calls.callWith_builtin rfl (Calls.evalArgs_plain (Calls.spliced_cons (thn (he.run pins s1 σ H1 _ I1 q1) fun yv s2 ⟨y, H2, I2, ry, q2⟩ =>
    Calls.spliced_cons (thn (hf.run pins s2 σ H2 _ I2 q2) fun zv s3 ⟨z, H3, I3, rz, md, L, k, g, q3⟩ => Calls.spliced_nil ?_))))
  exact dc_get2 hu I3 g.at_ g.keys g.key ry rz fun w' s4 I4 rw' => ⟨_, H3, I4, rw', q3⟩
/-- d[k] = v -/
def sDcPut (K : PySem.W.Frag) (w : World) (td ty tv : TE) : TS := fun D σ H => tv σ H fun v H1 => td σ H1 fun x H2 => ty σ H2 fun y H3 => ∃ a m L k, x = .ref a ∧ H3 a = some (DcV w a L) ∧ Ask K w H3 a m L y k ∧ L.length < sizeLine ∧ D.nx σ (upd H3 a (DcV w a (putN L y k v)))
theorem ps_dcput (hu : X.A.units + 64 < cLine) (ho : PE X o td) (hi : PE X i ty) (hv : PE X value tv) (hs : swapsWith value (some (.Subscript o i pos')) pos.line X.env = pure false) :
    PS X (.Assign [.Subscript o i pos'] value pos) (sDcPut X.K X.w td ty tv) := by
  refine ⟨fun pins s σ H D I h => ?_⟩
  refine wpAny_Assign_Subscript (thn (hv.run pins s σ H _ I h) fun r s1 ⟨v, H1, I1, rv, q1⟩ => thn (ho.run pins s1 σ H1 _ I1 q1) fun u s2 ⟨x, H2, I2, rx, q2⟩ => thn (hi.run pins s2 σ H2 _ I2 q2) fun iv s3 ⟨y, H3, I3, ry, a, m, L, k, ex, hat, g, hz, q3⟩ => ?_) hs
  subst ex
  obtain rfl : u = Value.ref a := rx
  exact dc_set hu I3 hat g.keys g.key ry rv hz fun s4 I4 => ⟨σ, _, I4, q3⟩
/-- {} -/
def tDcNew (w : World) : TE := fun _ H Q => NewD w H Q []
theorem pe_dcnew : PE X (.Dict [] [] pos) (tDcNew X.w) := ⟨fun pins s σ H Q I h =>
  wpAny_Dict_empty (new_d (I.laid (a := s.heap.objs.size) (o := DcV X.w s.heap.objs.size []) (t' := s.toks) (fun _ _ q => Heap.get?_push_of_some _ q) (Nat.le_refl _)
    (dcV_ok .nil (DicO.new (beq_eq_false_iff_ne.mpr (Ne.symm (Nat.ne_of_lt I.big))) (Heap.get?_push_size _ rfl)))) (I.hok.fresh (Nat.le_refl _)) h)⟩
end
end Cv

/-! Cs17: new tuples, known to the object. -/
namespace Cv
open PySem PySem.Spec PyProof.Rows L2
/-- a tuple's object -/
def tuO (its : List Value) : Obj := { cls := .type "tuple", data := .seq its.toArray }
/-- a new tuple -/
abbrev tuZ (its : List Value) (xs : List V) : HO := .frz (tuO its) (.tup xs)
theorem tuZ_ok {P : Program} {w : World} {H : Hp} {h : Heap} {a : Addr} {its : List Value} {xs : List V} (hz : xs.length ≤ sizeLine) (r : Vals xs its) (e : h.get? a = some (tuO its)) : ObjOk P w H h a (tuZ its xs) := ⟨e, hz, its, r, ⟨_, e, rfl, 0, rfl⟩⟩
section
variable {X : Cx}
/-- (a, b, ..) -/
def tTupZ (t : TA) : TE := fun σ H Q => t σ H fun xs H1 => xs.length ≤ sizeLine ∧ ∀ p o, o.dict = none → H1 p = none → Q (.ref p) (upd H1 p (.frz o (.tup xs)))
theorem pe_tupZ {es : List Expr} {t : TA} {n : Nat} {pos : Pos} (h : PA X es t) : PE X (.Tuple es n pos) (tTupZ t) := by
  refine ⟨fun pins s σ H Q I hq => ?_⟩
  refine wpAny_Tuple_spliced (thn (h.run pos pins s σ H _ I hq) fun us s1 ⟨xs, H1, I1, r, z, q⟩ => ⟨by rw [← r.length]; exact z, ?_⟩)
  exact ⟨.ref s1.heap.objs.size, _, I1.laid (t' := s1.toks) (o := tuZ us xs) (fun b u e => Heap.get?_push_of_some _ e) (Nat.le_refl _) (tuZ_ok z r (Heap.get?_push_size _ rfl)), rfl, q _ (tuO us) rfl (I1.hok.fresh (Nat.le_refl _))⟩
/-- tuple(xs) -/
theorem call_tupZ : CallR X (.type "tuple") (fun xs H Q => ∃ p ys, xs = [.ref p] ∧ ((SqL X.K H p ys ∧ ∀ l o, o.dict = none → H l = none → Q (.ref l) (upd H l (.frz o (.tup ys)))) ∨ (SqT X.K H p ys ∧ Q (.ref p) H))) := by
  intro pins s σ H xs us Q I r h
  obtain ⟨p, ys, rfl, h⟩ := h
  rw [Vals.ref1 r]
  rcases h with ⟨hq, q⟩ | ⟨hq, q⟩
  · obtain ⟨its, r', pl, hz⟩ := I.list hq
    have hlen := r'.length
    refine call_tuple_list pl.isList (fun h' kp => ?_) (by rw [List.size_toArray]; omega)
    have I1 : Inv X pins σ H { s with heap := h' } := I.kept (t' := s.toks) kp
    exact ⟨.ref h'.objs.size, _, I1.laid (t' := s.toks) (o := tuZ its ys) (fun b o e => Heap.get?_push_of_some _ e) (Nat.le_refl _) (tuZ_ok hz r' (Heap.get?_push_size _ rfl)), rfl, q _ (tuO its) rfl (I1.hok.fresh (Nat.le_refl _))⟩
  · obtain ⟨its, _, pl, _⟩ := I.tuple hq
    exact call_tuple_same pl ⟨.ref p, H, I, rfl, q⟩
/-- t + u -/
def rCatZ (K : PySem.W.Frag) : R2 := fun x y H Q => ∃ a b xs ys, x = .ref a ∧ y = .ref b ∧ SqT K H a xs ∧ SqT K H b ys ∧ xs.length + ys.length ≤ sizeLine ∧
  (xs = [] → Q (.ref b) H) ∧ (xs ≠ [] → ys = [] → Q (.ref a) H) ∧ (xs ≠ [] → ys ≠ [] → ∀ p o, o.dict = none → H p = none → Q (.ref p) (upd H p (.frz o (.tup (xs ++ ys)))))
theorem op_catZ : OpR X (binaryOp .Add) (rCatZ X.K) := by
  intro pins s σ H x y v u Q I rx ry h
  obtain ⟨a, b, xs, ys, rfl, rfl, ha, hb, hz, q0, q1, q2⟩ := h
  by_cases hx : xs = []
  · exact op_catA pins s σ H _ _ v u Q I rx ry ⟨a, b, xs, ys, rfl, rfl, ha, hb, hz, q0, q1, fun n => absurd hx n⟩
  by_cases hy : ys = []
  · exact op_catA pins s σ H _ _ v u Q I rx ry ⟨a, b, xs, ys, rfl, rfl, ha, hb, hz, q0, q1, fun _ n => absurd hy n⟩
  cases rx
  cases ry
  obtain ⟨its, r1, p1, _⟩ := I.tuple ha
  obtain ⟨its2, r2, p2, _⟩ := I.tuple hb
  refine HT.cat_tup p1 p2 (fun z => hx (r1.nil_iff.mp z)) (fun z => absurd (r2.nil_iff.mp z) hy) (fun z => ?_) (by rw [← r1.length, ← r2.length]; exact hz)
  refine ⟨.ref s.heap.objs.size, _, I.laid (t' := s.toks) (o := .frz _ (.tup (xs ++ ys))) (fun b ob q => Heap.get?_push_of_some _ q) (Nat.le_refl _) ⟨Heap.get?_push_size _ rfl, by rw [List.length_append]; exact hz, _, r1.append r2, IsTup.new _ _⟩, rfl, q2 hx hy _ _ rfl (I.hok.fresh (Nat.le_refl _))⟩
/-- t[lo:hi] -/
def rSlZ (K : PySem.W.Frag) : V → Option Int → Option Int → Hp → VK → Prop := fun x lo hi H Q => ∃ a xs, x = .ref a ∧ SqT K H a xs ∧
  (HT.sIx xs.length 0 lo = 0 ∧ HT.sIx xs.length xs.length hi = xs.length → Q (.ref a) H) ∧ (¬ (HT.sIx xs.length 0 lo = 0 ∧ HT.sIx xs.length xs.length hi = xs.length) → ∀ p o, o.dict = none → H p = none → Q (.ref p) (upd H p (.frz o (.tup (cutV xs lo hi)))))
theorem sl_tupZ : SlR X (rSlZ X.K) := by
  intro pins s σ H x v vl vu lo hi sl Q I rx hs pl pu h
  obtain ⟨a, xs, rfl, hx, q1, q2⟩ := h
  by_cases hw : HT.sIx xs.length 0 lo = 0 ∧ HT.sIx xs.length xs.length hi = xs.length
  · exact sl_tupA pins s σ H _ v vl vu lo hi sl Q I rx hs pl pu ⟨a, xs, rfl, hx, q1, fun n => absurd hw n⟩
  cases rx
  obtain ⟨its, r, ht, hz⟩ := I.tuple hx
  have len : its.toArray.size = xs.length := by rw [List.size_toArray]; exact r.length.symm
  refine ⟨"tuple", _, PyProof.Rows.slot_tuple_getitem.lookup, ht.typeIs, ?_⟩
  refine HT.getItem_tuple_cut ht hs pl pu (by rw [len]; exact hw) ?_ (by rw [len]; exact hz)
  rw [len]
  exact ⟨.ref s.heap.objs.size, _, I.laid (t' := s.toks) (o := .frz _ (.tup (cutV xs lo hi))) (fun b ob q => Heap.get?_push_of_some _ q) (Nat.le_refl _)
    ⟨Heap.get?_push_size _ rfl, Nat.le_trans (cutV_length xs lo hi) hz, _, (r.drop (HT.sIx xs.length 0 lo)).take (HT.sIx xs.length xs.length hi - HT.sIx xs.length 0 lo), IsTup.new _ _⟩, rfl, q2 hw _ _ rfl (I.hok.fresh (Nat.le_refl _))⟩
/-- t * n, t not void -/
def rRepZ (K : PySem.W.Frag) : R2 := fun x y H Q => ∃ l k xs, x = .ref l ∧ y = .int k ∧ SqT K H l xs ∧ xs ≠ [] ∧ 2 ≤ k ∧ k ≤ 1000 ∧ xs.length ≤ 1000 ∧ ∀ p o, o.dict = none → H p = none → Q (.ref p) (upd H p (.frz o (.tup (List.replicate k.toNat xs).flatten)))
theorem op_repZ : OpR X (binaryOp .Mult) (rRepZ X.K) := by
  intro pins s σ H x y v u Q I rx ry h
  obtain ⟨l, k, xs, rfl, rfl, hT, ne, h1, h2, hz, q⟩ := h
  cases rx
  obtain ⟨t, rfl⟩ := ry
  obtain ⟨its, r, ⟨o, ho, hc, n, hd⟩, _⟩ := I.tuple hT
  obtain ⟨cls, dd, data, sl⟩ := o
  cases hc
  cases hd
  have le : its.length = xs.length := r.length.symm
  have e0 : its.toArray.isEmpty = false := by
    cases its with
    | nil => exact absurd (List.eq_nil_of_length_eq_zero le.symm) ne
    | cons a b => rfl
  have sz : its.toArray.size = xs.length := by rw [List.size_toArray, le]
  have big : ((its.toArray.size : Nat) : Int) * k ≤ 1000000 := by
    rw [sz]
    have : ((xs.length : Nat) : Int) * k ≤ 1000 * k := Int.mul_le_mul_of_nonneg_right (by omega) (by omega)
    omega
  have cnt : k.toNat * xs.length ≤ 1000 * 1000 := Nat.mul_le_mul (by omega) hz
  have fl : (List.replicate k.toNat its).flatten.length ≤ sizeLine := by
    rw [PyProof.Rows.lm_len_rep_flat, le, sizeLine_eq]
    omega
  have c0 : (decide (k < -(2 ^ 63)) || decide (k ≥ 2 ^ 63)) = false := by
    rw [decide_eq_false (by omega), decide_eq_false (by omega)]; rfl
  have c1 : (its.toArray.isEmpty || k == 1) = false := by
    rw [e0, Bool.false_or, beq_eq_false_iff_ne]
    omega
  have c2 : (decide (k ≤ 0) || its.toArray.isEmpty) = false := by
    rw [e0, Bool.or_false, decide_eq_false_iff_not]
    omega
  have c4 : Builtin.Tuple.tupleTooMany (((its.toArray.size : Nat) : Int) * k) = false := by
    unfold Builtin.Tuple.tupleTooMany
    rw [sizeLine_eq, decide_eq_false_iff_not]
    omega
  refine wpAny_binaryOp_repeat_ref (T := "tuple") (U := "int") (by decide) ⟨_, ho, rfl⟩ (fun s' => typeIs_int s' k t) noFill_tuple_mul F.fills_int_mul F.slot_int_rmul repeat_tuple F.slot_int_index.lookup
    (call_meets F.slot_int_rmul (typeIs_int s k t) F.entry_int_rmul (F.args_int_rmul_2 _ _) (int_rmul_tuple k t l its.toArray n dd sl)
      ⟨ho, rfl, ⟨_, ho, rfl⟩, call_meets F.slot_tuple_mul ⟨_, ho, rfl⟩ F.entry_tuple_mul (F.args_tuple_mul_2 _ _) (tuple_mulW l its.toArray n dd sl k t c0 c1 c2 (by omega) c4 (by rw [size_rep, List.size_toArray]; exact fl)) ⟨ho, ?_⟩⟩)
  rw [size_rep]
  exact ⟨.ref s.heap.objs.size, _, I.laid (t' := s.toks) (o := .frz _ (.tup (List.replicate k.toNat xs).flatten)) (fun b ob z => Heap.get?_push_of_some _ z) (Nat.le_refl _)
    ⟨Heap.get?_push_size _ rfl, by rw [PyProof.Rows.lm_len_rep_flat, sizeLine_eq]; omega, _, r.rep k.toNat, IsTup.new _ _⟩, rfl, q _ _ rfl (I.hok.fresh (Nat.le_refl _))⟩
end
end Cv

/-! Cs18: zip, strict or not, of lists and of tuples. -/
namespace Cv
open PySem PySem.Spec PyProof.Rows L2
/-- an iterator over a list (b), over a tuple: at I, over what stands at l, at place k -/
def ItOf (b : Bool) (h : Heap) (I l : Addr) (k : Nat) (xs : Array Value) : Prop := match b with
  | true => h.IsListIter I l k ∧ h.IsList l xs
  | false => h.IsTupleIter I l k ∧ h.IsTuple l xs
theorem ItOf.keep {b : Bool} {h h' : Heap} {I l : Addr} {k : Nat} {xs : Array Value} (x : ItOf b h I l k xs) (e1 : ∀ o, h.get? I = some o → h'.get? I = some o) (e2 : ∀ o, h.get? l = some o → h'.get? l = some o) : ItOf b h' I l k xs := by
  cases b with
  | true => exact ⟨x.1.at e1, x.2.at e2⟩
  | false => exact ⟨x.1.at e1, x.2.at e2⟩
theorem ItOf.there {b : Bool} {h : Heap} {I l : Addr} {k : Nat} {xs : Array Value} (x : ItOf b h I l k xs) : ∃ o, h.get? I = some o ∧ ∀ v, o.data ≠ .cell v := by
  cases b with
  | true =>
    obtain ⟨⟨o, e, _, d⟩, _⟩ := x
    exact ⟨o, e, fun v q => by rw [d] at q; cases q⟩
  | false =>
    obtain ⟨⟨o, e, _, d⟩, _⟩ := x
    exact ⟨o, e, fun v q => by rw [d] at q; cases q⟩
section
variable {P : Program} {w : World} {A : Around} {E : Value → Shared → Prop} {s : Shared} {b : Bool} {I l : Addr} {k : Nat} {xs : Array Value}
theorem next_item {x : Value} {Q : Value → Shared → Prop} (ne : l ≠ I) (h : ItOf b s.heap I l k xs) (hx : xs[k]? = some x) (q : ∀ h', ItOf b h' I l (k + 1) xs → Heap.SameBut I s.heap h' → Q x { s with heap := h' }) :
    wpAny (model P w) A (Builtin.SmallTypes.nextOf (.ref I)) Q E s := by
  cases b with
  | true => exact wpAny_nextOf_list_item h.1 h.2 hx fun h' h1 sb => q h' ⟨h1, h.2.at fun o e => (sb.2 l ne).trans e⟩ sb
  | false => exact RZ.nextOf_tuple_item h.1 h.2 hx fun h' h1 sb => q h' ⟨h1, h.2.at fun o e => (sb.2 l ne).trans e⟩ sb
theorem next_end {Q : Value → Shared → Prop} (hh : A.handled = none) (h : ItOf b s.heap I l k xs) (hx : xs[k]? = none)
    (q : ∀ h' e, Heap.ExtBut I s.heap h' → (∃ o, h'.get? e = some o ∧ o.cls = .type "StopIteration") → E (.ref e) { s with heap := h' }) : wpAny (model P w) A (Builtin.SmallTypes.nextOf (.ref I)) Q E s := by
  cases b with
  | true => exact wpAny_nextOf_list_end hh h.1 h.2 hx q
  | false => exact RZ.nextOf_tuple_end hh h.1 h.2 hx q
/-- .. or an end -/
theorem draw_item {x : Value} {Q : Option Value → Shared → Prop} (ne : l ≠ I) (h : ItOf b s.heap I l k xs) (hx : xs[k]? = some x) (q : ∀ h', ItOf b h' I l (k + 1) xs → Heap.SameBut I s.heap h' → Q (some x) { s with heap := h' }) :
    wpAny (model P w) A (Builtin.SmallTypes.nextOrEnd (.ref I)) Q E s := by
  unfold Builtin.SmallTypes.nextOrEnd
  exact wpAny_bind (wpAny_attempt (next_item ne h hx fun h' h1 sb => wpAny_pure (q h' h1 sb)))
theorem draw_end {Q : Option Value → Shared → Prop} (hh : A.handled = none) (h : ItOf b s.heap I l k xs) (hx : xs[k]? = none) (q : ∀ h', Heap.ExtBut I s.heap h' → Q none { s with heap := h' }) :
    wpAny (model P w) A (Builtin.SmallTypes.nextOrEnd (.ref I)) Q E s := by
  unfold Builtin.SmallTypes.nextOrEnd
  refine wpAny_bind (wpAny_attempt (next_end hh h hx fun h' e ex he => ?_))
  obtain ⟨o, ho, hc⟩ := he
  refine wpAny_bind (wpAny_isInstance (T := "StopIteration") (b := true) ⟨o, ho, hc⟩ isSubtype_stop ?_)
  exact wpAny_pure (q h' ex)
end
/-- a zip, strict or not -/
abbrev ZipF (f : Bool) (h : Heap) (z TI TO : Addr) (T : Value) : Prop := h.get? z = some { cls := .type "zip", dict := none, data := .fields #[T, .bool false, .bool f, .ref TI, .ref TO], slots := #[] }
section
variable {P : Program} {w : World} {A : Around} {E : Value → Shared → Prop} {s : Shared} {f b1 b2 : Bool} {z TI TO i1 i2 l1 l2 : Addr} {k : Nat} {xs ys : Array Value}
/-- a draw, as zip makes it -/
theorem zd_item {b : Bool} {I l : Addr} {x : Value} {Q : Option Value → Shared → Prop} {F : Value → Sem PUnit} (ne : l ≠ I) (h : ItOf b s.heap I l k xs) (hx : xs[k]? = some x) (q : ∀ h', ItOf b h' I l (k + 1) xs → Heap.SameBut I s.heap h' → Q (some x) { s with heap := h' }) :
    wpAny (model P w) A ((if (Value.bool f == Value.bool true) = true then Builtin.SmallTypes.nextOrEnd (.ref I) else (do return some (← Builtin.SmallTypes.nextOf (.ref I)) : Sem (Option Value))).onRaise F) Q E s := by
  refine wpAny_onRaise ?_
  cases f with
  | true =>
    rw [if_pos (by decide)]
    exact draw_item ne h hx q
  | false =>
    rw [if_neg (by decide)]
    exact wpAny_bind (next_item ne h hx fun h' a1 a2 => wpAny_pure (q h' a1 a2))
/-- one pair more -/
theorem zf_item {x y p q : Value} {Q : Value → Shared → Prop} (D : ZipApart z TI TO i1 i2 l1 l2) (hz : ZipF f s.heap z TI TO .none) (hI : IsPair s.heap TI (.ref i1) (.ref i2)) (hO : IsPair s.heap TO p q)
    (a1 : ItOf b1 s.heap i1 l1 k xs) (a2 : ItOf b2 s.heap i2 l2 k ys) (hx : xs[k]? = some x) (hy : ys[k]? = some y)
    (hQ : ∀ h', ZipF f h' z TI TO (rawInt s.heap.objs.size) → IsPair h' TO x y → ItOf b1 h' i1 l1 (k + 1) xs → ItOf b2 h' i2 l2 (k + 1) ys → IsPair h' s.heap.objs.size x y → h'.objs.size = s.heap.objs.size + 1 →
      (∀ c o, c ≠ z → c ≠ TO → c ≠ i1 → c ≠ i2 → s.heap.get? c = some o → h'.get? c = some o) → Q (.ref s.heap.objs.size) { s with heap := h' }) :
    wpAny (model P w) A (Builtin.«zip.__next__» ⟨[.ref z], []⟩) (fun fin s' => ∃ v, fin = .done (.ret v) ∧ Q v s') E s := by
  show wpAny _ _ (field (.ref z) 2 >>= _) _ _ _
  refine wpAny_bind (wpAny_field hz rfl (x := .bool f) rfl ?_)
  show wpAny _ _ (field (.ref z) 3 >>= _) _ _ _
  refine wpAny_bind (wpAny_field hz rfl (x := .ref TI) rfl (wpAny_bind (wpAny_seqItems hI rfl ?_)))
  show wpAny _ _ (Builtin.SmallTypes.ownedTupleIsFree (.ref z) >>= _) _ _ _
  refine wpAny_bind ?_
  unfold Builtin.SmallTypes.ownedTupleIsFree
  refine wpAny_bind (wpAny_field hz rfl (x := .none) rfl (wpAny_pure ?_))
  simp only [if_true]
  refine wpAny_bind (wpAny_rule (wpAny_bind (wpAny_field hz rfl (x := .ref TO) rfl (wpAny_bind (wpAny_setField_rec hz (by simp) fun g1 z1 b1' => ?_)))))
  replace z1 : ZipF f g1 z TI TO .ellipsis := z1
  have at1 : ∀ c o, c ≠ z → s.heap.get? c = some o → g1.get? c = some o := fun c o n e => (b1'.2 c n).trans e
  refine wpAny_bind ?_
  simp only [List.zipIdx_cons, List.zipIdx_nil, List.forIn_cons, List.forIn_nil]
  refine wpAny_bind (wpAny_bind ?_)
  refine zd_item (f := f) (s := { s with heap := g1 }) D.l1i1 (a1.keep (at1 _ · D.i1z) (at1 _ · D.l1z)) hx fun g2 c1 b2' => ?_
  have at2 : ∀ c o, c ≠ z → c ≠ i1 → s.heap.get? c = some o → g2.get? c = some o := fun c o n1 n2 e => (b2'.2 c n2).trans (at1 c o n1 e)
  have o2 : IsPair g2 TO p q := at2 _ _ D.TOz D.TOi1 hO
  refine wpAny_bind (wpAny_seqItems o2 rfl (wpAny_bind (wpAny_updateSeq_pair (s := { s with heap := g2 }) o2 fun g3 o3 b3 => ?_)))
  replace o3 : IsPair g3 TO x q := o3
  have at3 : ∀ c o, c ≠ z → c ≠ TO → c ≠ i1 → s.heap.get? c = some o → g3.get? c = some o := fun c o n1 n2 n3 e => (b3.2 c n2).trans (at2 c o n1 n3 e)
  refine wpAny_bind (wpAny_letGo (wpAny_pure ?_))
  refine wpAny_bind (wpAny_bind ?_)
  refine zd_item (f := f) (s := { s with heap := g3 }) D.l2i2 (a2.keep (at3 _ · D.i2z D.TOi2.symm D.i12.symm) (at3 _ · D.l2z D.l2TO D.l2i1)) hy fun g4 c2 b4 => ?_
  have o4 : IsPair g4 TO x q := (b4.2 _ D.TOi2).trans o3
  refine wpAny_bind (wpAny_seqItems o4 rfl (wpAny_bind (wpAny_updateSeq_pair (s := { s with heap := g4 }) o4 fun g5 o5 b5 => ?_)))
  replace o5 : IsPair g5 TO x y := o5
  refine wpAny_bind (wpAny_letGo (wpAny_pure (wpAny_pure ?_)))
  refine wpAny_bind (wpAny_seqItems o5 rfl (wpAny_bind (wpAny_newTuple ?_)))
  have sz : g5.objs.size = s.heap.objs.size := by rw [b5.1, b4.1, b3.1, b2'.1, b1'.1]
  have at5 : ∀ c o, c ≠ z → c ≠ TO → c ≠ i1 → c ≠ i2 → s.heap.get? c = some o → g5.get? c = some o := fun c o n1 n2 n3 n4 e => (b5.2 c n2).trans ((b4.2 c n4).trans (at3 c o n1 n2 n3 e))
  have z5 : ZipF f g5 z TI TO .ellipsis := (b5.2 _ D.TOz.symm).trans ((b4.2 _ D.i2z.symm).trans ((b3.2 _ D.TOz.symm).trans ((b2'.2 _ D.i1z.symm).trans z1)))
  have d1 : ItOf b1 g5 i1 l1 (k + 1) xs := c1.keep (fun o e => (b5.2 _ D.TOi1.symm).trans ((b4.2 _ D.i12).trans ((b3.2 _ D.TOi1.symm).trans e))) (fun o e => (b5.2 _ D.l1TO).trans ((b4.2 _ D.l1i2).trans ((b3.2 _ D.l1TO).trans e)))
  have d2 : ItOf b2 g5 i2 l2 (k + 1) ys := c2.keep (fun o e => (b5.2 _ D.TOi2.symm).trans e) (fun o e => (b5.2 _ D.l2TO).trans e)
  have zlt : z < g5.objs.size := Heap.lt_size z5
  show wpAny _ _ (Builtin.SmallTypes.ownedTupleHandOut (.ref z) (.ref g5.objs.size) >>= _) _ _ _
  refine wpAny_bind ?_
  unfold Builtin.SmallTypes.ownedTupleHandOut
  have z6 : ZipF f (g5.push { cls := .type "tuple", data := .seq #[x, y] }) z TI TO .ellipsis := Heap.get?_push_of_some _ z5
  refine wpAny_bind (wpAny_setField_rec (s := { s with heap := g5.push { cls := .type "tuple", data := .seq #[x, y] } }) z6 (by simp) fun g7 z7 b7 => ?_)
  replace z7 : ZipF f g7 z TI TO (rawInt g5.objs.size) := z7
  refine wpAny_setField_rec (s := { s with heap := g7 }) z7 (by simp) fun g8 z8 b8 => ?_
  replace z8 : ZipF f g8 z TI TO (rawInt g5.objs.size) := z8
  have up : ∀ c o, c ≠ z → g5.get? c = some o → g8.get? c = some o := fun c o n e => (b8.2 c n).trans ((b7.2 c n).trans (Heap.get?_push_of_some _ e))
  have t8 : IsPair g8 g5.objs.size x y := (b8.2 _ (Nat.ne_of_gt zlt)).trans ((b7.2 _ (Nat.ne_of_gt zlt)).trans (Heap.get?_push_size _ rfl))
  have s8 : g8.objs.size = g5.objs.size + 1 := by rw [b8.1, b7.1, Heap.size_push]
  rw [sz] at z8 t8 s8
  refine wpAny_pure ⟨_, rfl, ?_⟩
  show Q (.ref g5.objs.size) _
  rw [sz]
  exact hQ g8 z8 (up _ _ D.TOz o5) (d1.keep (up _ · D.i1z) (up _ · D.l1z)) (d2.keep (up _ · D.i2z) (up _ · D.l2z)) t8 s8 fun c o n1 n2 n3 n4 e => up c o n1 (at5 c o n1 n2 n3 n4 e)
/-- how long a zip goes: strict, both alike -/
def ZEnd (f : Bool) (n m k : Nat) : Prop := match f with
  | true => n ≤ k ∧ m ≤ k
  | false => n ≤ k ∨ m ≤ k
theorem arr_none {α : Type} {xs : Array α} {k : Nat} (h : xs.size ≤ k) : xs[k]? = none := Array.getElem?_eq_none h
/-- the end -/
theorem zf_end {p q : Value} {Q : PySem.Fin → Shared → Prop} (hh : A.handled = none) (D : ZipApart z TI TO i1 i2 l1 l2) (hz : ZipF f s.heap z TI TO .none) (hI : IsPair s.heap TI (.ref i1) (.ref i2)) (hO : IsPair s.heap TO p q)
    (a1 : ItOf b1 s.heap i1 l1 k xs) (a2 : ItOf b2 s.heap i2 l2 k ys) (hend : ZEnd f xs.size ys.size k)
    (hE : ∀ h' e, (∀ c o, c ≠ z → c ≠ TO → c ≠ i1 → c ≠ i2 → s.heap.get? c = some o → h'.get? c = some o) → (∃ o, h'.get? e = some o ∧ o.cls = .type "StopIteration") → E (.ref e) { s with heap := h' }) :
    wpAny (model P w) A (Builtin.«zip.__next__» ⟨[.ref z], []⟩) Q E s := by
  show wpAny _ _ (field (.ref z) 2 >>= _) _ _ _
  refine wpAny_bind (wpAny_field hz rfl (x := .bool f) rfl ?_)
  show wpAny _ _ (field (.ref z) 3 >>= _) _ _ _
  refine wpAny_bind (wpAny_field hz rfl (x := .ref TI) rfl (wpAny_bind (wpAny_seqItems hI rfl ?_)))
  show wpAny _ _ (Builtin.SmallTypes.ownedTupleIsFree (.ref z) >>= _) _ _ _
  refine wpAny_bind ?_
  unfold Builtin.SmallTypes.ownedTupleIsFree
  refine wpAny_bind (wpAny_field hz rfl (x := .none) rfl (wpAny_pure ?_))
  simp only [if_true]
  refine wpAny_bind (wpAny_rule (wpAny_bind (wpAny_field hz rfl (x := .ref TO) rfl (wpAny_bind (wpAny_setField_rec hz (by simp) fun g1 z1 b1' => ?_)))))
  replace z1 : ZipF f g1 z TI TO .ellipsis := z1
  have at1 : ∀ c o, c ≠ z → s.heap.get? c = some o → g1.get? c = some o := fun c o n e => (b1'.2 c n).trans e
  refine wpAny_bind ?_
  simp only [List.zipIdx_cons, List.zipIdx_nil, List.forIn_cons, List.forIn_nil]
  refine wpAny_bind (wpAny_bind ?_)
  cases f with
  | true =>
    refine wpAny_onRaise ?_
    show wpAny _ _ (Builtin.SmallTypes.nextOrEnd (.ref i1)) _ _ _
    refine draw_end (s := { s with heap := g1 }) hh (a1.keep (at1 _ · D.i1z) (at1 _ · D.l1z)) (arr_none hend.1) fun g2 b2' => ?_
    have at2 : ∀ c o, c ≠ z → c ≠ i1 → s.heap.get? c = some o → g2.get? c = some o := fun c o n1 n2 e => b2' c o n2 (at1 c o n1 e)
    have z2 : ZipF true g2 z TI TO .ellipsis := b2' _ _ D.i1z.symm z1
    refine wpAny_bind (wpAny_setField_rec (s := { s with heap := g2 }) z2 (by simp) fun g3 z3 b3 => ?_)
    have at3 : ∀ c o, c ≠ z → c ≠ i1 → s.heap.get? c = some o → g3.get? c = some o := fun c o n1 n2 e => (b3.2 c n1).trans (at2 c o n1 n2 e)
    have z4 : ZipF true g3 z TI TO .none := z3
    have dr : ∀ {Q' : Option Value → Shared → Prop} {E' : Value → Shared → Prop}, (∀ h', Heap.ExtBut i2 g3 h' → Q' none { s with heap := h' }) → wpAny (model P w) A (Builtin.SmallTypes.nextOrEnd (.ref i2)) Q' E' { s with heap := g3 } := fun q =>
      draw_end (s := { s with heap := g3 }) hh (a2.keep (at3 _ · D.i2z D.i12.symm) (at3 _ · D.l2z D.l2i1)) (arr_none hend.2) q
    wp_walk using dr
    intro g4 b4
    wp_walk
    simp only [raiseNew]
    refine wpAny_bind (wpAny_handled ?_)
    rw [hh]
    refine wpAny_bind (wpAny_pure (wpAny_throw ?_))
    exact hE _ _ (fun c o n1 n2 n3 n4 x => Heap.get?_push_of_some _ (Heap.get?_push_of_some _ (b4 c o n4 (at3 c o n1 n3 x)))) ⟨_, Heap.get?_push_size _ rfl, rfl⟩
  | false =>
    refine wpAny_onRaise ?_
    show wpAny _ _ (Builtin.SmallTypes.nextOf (.ref i1) >>= _) _ _ _
    by_cases hx : xs.size ≤ k
    · refine wpAny_bind (next_end hh (a1.keep (at1 _ · D.i1z) (at1 _ · D.l1z)) (arr_none hx) fun g2 e b2' he => ?_)
      obtain ⟨oe, hoe, hce⟩ := he
      have z2 : ZipF false g2 z TI TO .ellipsis := b2' _ _ D.i1z.symm z1
      have hez : e ≠ z := fun x => by subst x; rw [z2] at hoe; cases hoe; simp at hce
      exact wpAny_setField_rec z2 (by simp) fun g3 _ b3 => hE g3 e (fun c o n1 _ n3 _ x => (b3.2 c n1).trans (b2' c o n3 (at1 c o n1 x))) ⟨oe, (b3.2 e hez).trans hoe, hce⟩
    · have hy : ys.size ≤ k := hend.resolve_left hx
      have hx' : xs[k]? = some xs[k] := Array.getElem?_eq_getElem (by omega)
      refine wpAny_bind (next_item D.l1i1 (a1.keep (at1 _ · D.i1z) (at1 _ · D.l1z)) hx' fun g2 c1 b2' => wpAny_pure ?_)
      have at2 : ∀ c o, c ≠ z → c ≠ i1 → s.heap.get? c = some o → g2.get? c = some o := fun c o n1 n2 e => (b2'.2 c n2).trans (at1 c o n1 e)
      have o2 : IsPair g2 TO p q := at2 _ _ D.TOz D.TOi1 hO
      refine wpAny_bind (wpAny_seqItems o2 rfl (wpAny_bind (wpAny_updateSeq_pair (s := { s with heap := g2 }) o2 fun g3 o3 b3 => ?_)))
      have at3 : ∀ c o, c ≠ z → c ≠ TO → c ≠ i1 → s.heap.get? c = some o → g3.get? c = some o := fun c o n1 n2 n3 e => (b3.2 c n2).trans (at2 c o n1 n3 e)
      refine wpAny_bind (wpAny_letGo (wpAny_pure ?_))
      refine wpAny_bind (wpAny_bind (wpAny_onRaise ?_))
      show wpAny _ _ (Builtin.SmallTypes.nextOf (.ref i2) >>= _) _ _ _
      refine wpAny_bind (next_end (s := { s with heap := g3 }) hh (a2.keep (at3 _ · D.i2z D.TOi2.symm D.i12.symm) (at3 _ · D.l2z D.l2TO D.l2i1)) (arr_none hy) fun g4 e b4 he => ?_)
      obtain ⟨oe, hoe, hce⟩ := he
      have z4 : ZipF false g4 z TI TO .ellipsis := b4 _ _ D.i2z.symm ((b3.2 _ D.TOz.symm).trans ((b2'.2 _ D.i1z.symm).trans z1))
      have hez : e ≠ z := fun x => by subst x; rw [z4] at hoe; cases hoe; simp at hce
      exact wpAny_setField_rec (s := { s with heap := g4 }) z4 (by simp) fun g5 _ b5 => hE g5 e (fun c o n1 n2 n3 n4 x => (b5.2 c n1).trans (b4 c o n4 (at3 c o n1 n2 n3 x))) ⟨oe, (b5.2 e hez).trans hoe, hce⟩
end
end Cv

/-! Cs19: zip as a call, as a walk. -/
namespace Cv
open PySem PySem.Spec PyProof.Rows L2
/-- a list (b), a tuple, as it stands -/
def SeqOf (b : Bool) (h : Heap) (l : Addr) (xs : Array Value) : Prop := match b with
  | true => h.IsList l xs
  | false => h.IsTuple l xs
theorem SeqOf.lt {b : Bool} {h : Heap} {l : Addr} {xs : Array Value} (x : SeqOf b h l xs) : l < h.objs.size := by
  cases b with
  | true =>
    obtain ⟨o, e, _⟩ := x
    exact Heap.lt_size e
  | false =>
    obtain ⟨o, e, _⟩ := x
    exact Heap.lt_size e
theorem SeqOf.keep {b : Bool} {h h' : Heap} {l : Addr} {xs : Array Value} (x : SeqOf b h l xs) (e : ∀ o, h.get? l = some o → h'.get? l = some o) : SeqOf b h' l xs := by
  cases b with
  | true => exact Heap.IsList.at x e
  | false => exact Heap.IsTuple.at x e
def itObj (b : Bool) (l : Addr) : Obj := { cls := .type (if b then "list_iterator" else "tuple_iterator"), data := .fields #[.ref l, .int 0 0] }
section
variable {P : Program} {w : World} {A : Around} {E : Value → Shared → Prop} {s : Shared} {f b1 b2 b : Bool} {z TI TO i1 i2 l1 l2 l : Addr} {k : Nat} {xs ys : Array Value}
theorem iter_seq {Q : Value → Shared → Prop} (h : SeqOf b s.heap l xs) (q : Q (.ref s.heap.objs.size) { s with heap := s.heap.push (itObj b l) }) : wpAny (model P w) A (pyIter (.ref l)) Q E s := by
  cases b with
  | true => exact wpAny_pyIter_list h q
  | false => exact wpAny_pyIter_tuple h q
theorem it_new {h : Heap} {I : Addr} (x : SeqOf b h l xs) (e : h.get? I = some (itObj b l)) : ItOf b h I l 0 xs := by
  cases b with
  | true => exact ⟨⟨_, e, rfl, rfl⟩, x⟩
  | false => exact ⟨⟨_, e, rfl, rfl⟩, x⟩
abbrev zH1 (h : Heap) (b1 : Bool) (l1 : Addr) : Heap := h.push (itObj b1 l1)
abbrev zH2 (h : Heap) (b1 b2 : Bool) (l1 l2 : Addr) : Heap := (zH1 h b1 l1).push (itObj b2 l2)
abbrev zH3 (h : Heap) (b1 b2 : Bool) (l1 l2 : Addr) : Heap := (zH2 h b1 b2 l1 l2).push { cls := .type "tuple", data := .seq #[.ref h.objs.size, .ref (zH1 h b1 l1).objs.size] }
abbrev zH4 (h : Heap) (b1 b2 : Bool) (l1 l2 : Addr) : Heap := (zH3 h b1 b2 l1 l2).push { cls := .type "tuple", data := .seq #[.none, .none] }
abbrev zH5 (f : Bool) (h : Heap) (b1 b2 : Bool) (l1 l2 : Addr) : Heap := (zH4 h b1 b2 l1 l2).push { cls := .type "zip", dict := none, data := .fields #[.none, .bool false, .bool f, .ref (zH2 h b1 b2 l1 l2).objs.size, .ref (zH3 h b1 b2 l1 l2).objs.size], slots := #[] }
def zKw (f : Bool) : List (Str × Value) := if f then [(Str.ofString "strict", .bool true)] else []
theorem meets_zipF (f b1 b2 : Bool) (l1 l2 : Addr) (xs ys : Array Value) :
    Meets (Builtin.«zip.__new__» ⟨[.type "zip", .ref l1, .ref l2], zKw f⟩) (fun _ R s => SeqOf b1 s.heap l1 xs ∧ SeqOf b2 s.heap l2 ys ∧
      R (.ok (.ret (.ref (zH4 s.heap b1 b2 l1 l2).objs.size))) { s with heap := zH5 f s.heap b1 b2 l1 l2 }) :=
  .of_wp fun prog w A R s h => by
    obtain ⟨hp, g, d, tk, os⟩ := s; obtain ⟨hl1, hl2, h⟩ := h
    have hsub := sub_zip
    have hl2' : SeqOf b2 (zH1 hp b1 l1) l2 ys := hl2.keep fun o e => Heap.get?_push_of_some _ e
    have i1 : ∀ {A' : Around} {Q' : Value → Shared → Prop} {E' : Value → Shared → Prop}, Q' (.ref hp.objs.size) ⟨zH1 hp b1 l1, g, d, tk, os⟩ → wpAny (model prog w) A' (pyIter (.ref l1)) Q' E' ⟨hp, g, d, tk, os⟩ := fun q => iter_seq hl1 q
    have i2 : ∀ {A' : Around} {Q' : Value → Shared → Prop} {E' : Value → Shared → Prop}, Q' (.ref (zH1 hp b1 l1).objs.size) ⟨zH2 hp b1 b2 l1 l2, g, d, tk, os⟩ → wpAny (model prog w) A' (pyIter (.ref l2)) Q' E' ⟨zH1 hp b1 l1, g, d, tk, os⟩ := fun q => iter_seq hl2' q
    cases f with
    | true =>
      unfold zKw
      rw [if_pos rfl]
      wp_walk using i1, i2
      exact ⟨_, rfl, h⟩
    | false =>
      unfold zKw
      rw [if_neg (by decide)]
      wp_walk using i1, i2
      exact ⟨_, rfl, h⟩
theorem init_kw {T newId : String} {self : Value} {rest : List Value} {kw : List (Str × Value)} (hl : typeLookup (.type T) "__init__" = pure (some (.builtin "object.__init__")))
    (hm : Bind.madeBy (.type T) = pure (some newId)) (hne : (some newId != some "object.__new__") = true) :
    Meets (Builtin.«object.__init__» ⟨self :: rest, kw⟩) (fun _ R s => s.TypeIs self T ∧ R (.ok (.ret .none)) s) := by
  refine Meets.of_wp fun prog w A R s hs => ?_
  obtain ⟨hT, hq⟩ := hs
  cases rest with
  | nil =>
    cases kw with
    | nil => exact wpAny_pure ⟨_, rfl, hq⟩
    | cons k ks =>
      repeat (any_goals (first | assumption | wp_step))
      exact ⟨_, rfl, hq⟩
  | cons a rest =>
    repeat (any_goals (first | assumption | wp_step))
    exact ⟨_, rfl, hq⟩
/-- a call of a type with keywords -/
theorem callType_kw {T newId : String} {Bn : Builtin} {args : List Value} {kw : List (Str × Value)} {S : PySem.Spec} {Q : Value → Shared → Prop} (ft : TypeCalled T newId "object.__init__")
    (hne : (some newId != some "object.__new__") = true) (hct : checkTypeCall T ⟨args, kw⟩ = pure ()) (hcn : checkBuiltinCall newId ⟨.type T :: args, kw⟩ = pure ())
    (hok : ∀ obj, argsOk "object.__init__" ⟨obj :: args, kw⟩) (entryN : entryFor table newId = some Bn) (g : Meets (Bn ⟨.type T :: args, kw⟩) S)
    (h : S A.in1 (wants (fun obj s₁ => s₁.TypeIs obj T ∧ Q obj s₁) E) s) : wpAny (model P w) A (call (.type T) args kw) Q E s := by
  obtain ⟨c, tl, hmro⟩ := ft.mro
  have hmade := ft.made
  have hsub := ft.sub
  have entryI := F.entry_object_init
  refine wpAny_call (codeAny_of_tree ?_)
  show wpAny _ _ (callAny (.type T) _) _ _ _
  refine wpAny_pure ⟨Code.quiet_builtin _ (by decide +kernel), codeAny_builtin F.entry_type_call ?_⟩
  rw [Around.under_plain (weight_type_call_type T args kw) (units_type_call_type T args kw)]
  have h1 := ft.notType
  have h2 := ft.canCreate
  repeat (any_goals (first | assumption | wp_step))
  refine codeAny_mono (codeAny_call_builtin ft.plain entryN (wpAny_of_eq hcn (g P w A.in1 _ s h))) fun r s₁ hr => ?_
  cases r with
  | error e => exact hr
  | ok fl =>
    cases fl with
    | ret obj =>
      obtain ⟨hT, hq⟩ := hr
      have hli := ft.init.lookup
      have hbi := ft.init.bind obj
      repeat (any_goals (first | assumption | wp_step))
      refine codeAny_mono (codeAny_call_builtin ft.init.plain entryI (ft.init.check _ _ _ _ _ _ _ _ hT (hok obj) (init_kw ft.init.lookup ft.made hne P w A.in1 (wants (fun r s₂ => r = .none ∧ Q obj s₂) E) s₁ ⟨hT, rfl, hq⟩))) fun r₂ s₂ hr₂ => ?_
      cases r₂ with
      | error e => exact hr₂
      | ok fl₂ =>
        cases fl₂ with
        | ret r =>
          obtain ⟨rfl, hq⟩ := hr₂
          repeat (any_goals (first | assumption | wp_step))
        | _ => exact hr₂.elim
    | _ => exact hr.elim
end
end Cv

/-! Cs20: zip as a walk. -/
namespace Cv
open PySem PySem.Spec PyProof.Rows L2
theorem tc_zip (f : Bool) (a b : Value) : checkTypeCall "zip" ⟨[a, b], zKw f⟩ = pure () := by cases f <;> kernel_rfl
theorem nc_zip (f : Bool) (a b : Value) : checkBuiltinCall "zip.__new__" ⟨[.type "zip", a, b], zKw f⟩ = pure () := by cases f <;> kernel_rfl
theorem ao_zip (f : Bool) (o a b : Value) : argsOk "object.__init__" ⟨[o, a, b], zKw f⟩ := by
  cases f <;> (unfold argsOk; rw [signature?_of (id := "object.__init__") (n := ['_', '_', 't', 'i', 'n', 'i', '_', '_']) (o := ['t', 'c', 'e', 'j', 'b', 'o']) (by kernel_rfl) F.owner_object]; kernel_rfl)
section
variable {P : Program} {w : World} {A : Around} {E : Value → Shared → Prop} {s : Shared} {f b1 b2 : Bool} {z TI TO i1 i2 l1 l2 : Addr} {k : Nat} {xs ys : Array Value}
theorem call_zipF {Q : Value → Shared → Prop} (hl1 : SeqOf b1 s.heap l1 xs) (hl2 : SeqOf b2 s.heap l2 ys)
    (h : ∀ h', ZipF f h' (s.heap.objs.size + 4) (s.heap.objs.size + 2) (s.heap.objs.size + 3) .none → IsPair h' (s.heap.objs.size + 2) (.ref s.heap.objs.size) (.ref (s.heap.objs.size + 1)) →
      IsPair h' (s.heap.objs.size + 3) .none .none → ItOf b1 h' s.heap.objs.size l1 0 xs → ItOf b2 h' (s.heap.objs.size + 1) l2 0 ys → h'.objs.size = s.heap.objs.size + 5 →
      (∀ c o, s.heap.get? c = some o → h'.get? c = some o) → Q (.ref (s.heap.objs.size + 4)) { s with heap := h' }) :
    wpAny (model P w) A (call (.type "zip") [.ref l1, .ref l2] (zKw f)) Q E s := by
  refine callType_kw F.called_zip (by decide) (tc_zip f _ _) (nc_zip f _ _) (fun obj => ao_zip f obj _ _) F.entry_zip_new (meets_zipF f b1 b2 l1 l2 xs ys) ⟨hl1, hl2, ?_⟩
  have z1 : (zH1 s.heap b1 l1).objs.size = s.heap.objs.size + 1 := Heap.size_push ..
  have z2 : (zH2 s.heap b1 b2 l1 l2).objs.size = s.heap.objs.size + 2 := by rw [Heap.size_push, z1]
  have z3 : (zH3 s.heap b1 b2 l1 l2).objs.size = s.heap.objs.size + 3 := by rw [Heap.size_push, z2]
  have z4 : (zH4 s.heap b1 b2 l1 l2).objs.size = s.heap.objs.size + 4 := by rw [Heap.size_push, z3]
  have z5 : (zH5 f s.heap b1 b2 l1 l2).objs.size = s.heap.objs.size + 5 := by rw [Heap.size_push, z4]
  have g5 : (zH5 f s.heap b1 b2 l1 l2).get? (zH4 s.heap b1 b2 l1 l2).objs.size = some _ := Heap.get?_push_size _ rfl
  have g4 : (zH5 f s.heap b1 b2 l1 l2).get? (zH3 s.heap b1 b2 l1 l2).objs.size = some _ := Heap.get?_push_of_some _ (Heap.get?_push_size _ rfl)
  have g3 : (zH5 f s.heap b1 b2 l1 l2).get? (zH2 s.heap b1 b2 l1 l2).objs.size = some _ := Heap.get?_push_of_some _ (Heap.get?_push_of_some _ (Heap.get?_push_size _ rfl))
  have g2 : (zH5 f s.heap b1 b2 l1 l2).get? (zH1 s.heap b1 l1).objs.size = some (itObj b2 l2) := Heap.get?_push_of_some _ (Heap.get?_push_of_some _ (Heap.get?_push_of_some _ (Heap.get?_push_size _ rfl)))
  have g1 : (zH5 f s.heap b1 b2 l1 l2).get? s.heap.objs.size = some (itObj b1 l1) := Heap.get?_push_of_some _ (Heap.get?_push_of_some _ (Heap.get?_push_of_some _ (Heap.get?_push_of_some _ (Heap.get?_push_size _ rfl))))
  have kp : ∀ c o, s.heap.get? c = some o → (zH5 f s.heap b1 b2 l1 l2).get? c = some o := fun c o x =>
    Heap.get?_push_of_some _ (Heap.get?_push_of_some _ (Heap.get?_push_of_some _ (Heap.get?_push_of_some _ (Heap.get?_push_of_some _ x))))
  show _ ∧ _
  rw [z2, z3, z4] at g5
  rw [z1, z2] at g3
  rw [z3] at g4
  rw [z1] at g2
  rw [z4]
  exact ⟨⟨_, g5, rfl⟩, h _ g5 g3 g4 (it_new (hl1.keep fun o e => kp _ o e) g1) (it_new (hl2.keep fun o e => kp _ o e) g2) z5 kp⟩
theorem next_zipF {x y p q : Value} {Q : Option Value → Shared → Prop} (D : ZipApart z TI TO i1 i2 l1 l2) (hz : ZipF f s.heap z TI TO .none) (hI : IsPair s.heap TI (.ref i1) (.ref i2)) (hO : IsPair s.heap TO p q)
    (a1 : ItOf b1 s.heap i1 l1 k xs) (a2 : ItOf b2 s.heap i2 l2 k ys) (hx : xs[k]? = some x) (hy : ys[k]? = some y)
    (hQ : ∀ h', ZipF f h' z TI TO (rawInt s.heap.objs.size) → IsPair h' TO x y → ItOf b1 h' i1 l1 (k + 1) xs → ItOf b2 h' i2 l2 (k + 1) ys → IsPair h' s.heap.objs.size x y → h'.objs.size = s.heap.objs.size + 1 →
      (∀ c o, c ≠ z → c ≠ TO → c ≠ i1 → c ≠ i2 → s.heap.get? c = some o → h'.get? c = some o) → Q (some (.ref s.heap.objs.size)) { s with heap := h' }) :
    wpAny (model P w) A (pyNext (.ref z)) Q E s := by
  have hT : s.TypeIs (.ref z) "zip" := ⟨_, hz, rfl⟩
  unfold pyNext
  exact wpAny_bind (wpAny_attempt (wpAny_callSpecial?_slot (name := Str.ofString "__next__") hT F.slot_zip_next
    (wpAny_call_entry F.slot_zip_next hT F.entry_zip_next (zf_item D hz hI hO a1 a2 hx hy fun h' c1 c2 c3 c4 c5 c6 c7 => wpAny_pure (hQ h' c1 c2 c3 c4 c5 c6 c7)) (F.args_zip_next_1 _))))
theorem next_zipE {p q : Value} {Q : Option Value → Shared → Prop} (hh : A.handled = none) (D : ZipApart z TI TO i1 i2 l1 l2) (hz : ZipF f s.heap z TI TO .none) (hI : IsPair s.heap TI (.ref i1) (.ref i2)) (hO : IsPair s.heap TO p q)
    (a1 : ItOf b1 s.heap i1 l1 k xs) (a2 : ItOf b2 s.heap i2 l2 k ys) (hend : ZEnd f xs.size ys.size k)
    (hQ : ∀ h', (∀ c o, c ≠ z → c ≠ TO → c ≠ i1 → c ≠ i2 → s.heap.get? c = some o → h'.get? c = some o) → Q none { s with heap := h' }) : wpAny (model P w) A (pyNext (.ref z)) Q E s := by
  have hT : s.TypeIs (.ref z) "zip" := ⟨_, hz, rfl⟩
  unfold pyNext
  refine wpAny_bind (wpAny_attempt (wpAny_callSpecial?_slot (name := Str.ofString "__next__") hT F.slot_zip_next
    (wpAny_call_entry F.slot_zip_next hT F.entry_zip_next (zf_end hh D hz hI hO a1 a2 hend fun h' e hk he => ?_) (F.args_zip_next_1 _))))
  obtain ⟨o, ho, hc⟩ := he
  refine wpAny_bind (wpAny_isInstance (T := "StopIteration") (b := true) ⟨o, ho, hc⟩ isSubtype_stop ?_)
  exact wpAny_pure (hQ _ hk)
theorem letGo_zipF {elts : List Expr} {x1 : Nat} {pos : Pos} {T : Addr} {Q : Unit → Shared → Prop} (hz : ZipF f s.heap z TI TO (rawInt T))
    (hQ : ∀ h', ZipF f h' z TI TO .none → Heap.SameBut z s.heap h' → Q () { s with heap := h' }) :
    wpAny (model P w) A (letOwnedTupleGo (.Tuple elts x1 pos) (.ref z) (.ref T)) Q E s := by
  unfold letOwnedTupleGo
  refine wpAny_bind (wpAny_load hz ?_)
  show wpAny _ _ (if (["enumerate", "zip", "dict_itemiterator", "dict_reverseitemiterator", "odict_iterator", "itertools.zip_longest", "itertools.pairwise"].contains "zip" &&
      (#[rawInt T, .bool false, .bool f, .ref TI, .ref TO] : Array Value)[0]? == some (rawInt T)) = true then _ else _) Q E s
  rw [if_pos (by simp)]
  refine wpAny_bind (wpAny_rule ?_)
  show wpAny _ _ (setField (.ref z) 0 .none) Q E s
  exact wpAny_setField_rec hz (by simp) fun h' hz' hs' => hQ h' hz' hs'
theorem iter_zipF {f0 : Value} {Q : Value → Shared → Prop} (hz : ZipF f s.heap z TI TO f0) (h : Q (.ref z) s) : wpAny (model P w) A (pyIter (.ref z)) Q E s := by
  have hT : s.TypeIs (.ref z) "zip" := ⟨_, hz, rfl⟩
  refine wpAny_pyIter_slot hT F.slot_zip_iter (wpAny_call_entry F.slot_zip_iter hT F.entry_zip_iter ?_ (F.args_zip_iter_1 _))
  show wpAny _ _ (ret (.ref z)) _ _ s
  exact wpAny_pure ⟨_, rfl, "zip", _, hT, F.slot_zip_next.lookup, h⟩
end
/-- a list (b), a tuple, as the names know it -/
def SqB (K : PySem.W.Frag) (b : Bool) (H : Hp) (a : Addr) (xs : List V) : Prop := match b with
  | true => SqL K H a xs
  | false => SqT K H a xs
theorem seqB {X : Cx} {pins : List (Addr × Obj)} {σ : L2.St} {H : Hp} {s : Shared} {b : Bool} {a : Addr} {xs : List V} (I : Inv X pins σ H s) (h : SqB X.K b H a xs) : ∃ its, Vals xs its ∧ SeqOf b s.heap a its.toArray := by
  cases b with
  | true =>
    obtain ⟨its, r, p, _⟩ := I.list h
    exact ⟨its, r, p.isList⟩
  | false =>
    obtain ⟨its, r, p, _⟩ := I.tuple h
    exact ⟨its, r, p⟩
theorem seqB_inj {X : Cx} {pins : List (Addr × Obj)} {σ : L2.St} {H : Hp} {s : Shared} {b : Bool} {a : Addr} {xs ys : List V} (I : Inv X pins σ H s) (h : SqB X.K b H a xs) (h2 : SqB X.K b H a ys) : xs = ys := by
  cases b with
  | true => exact I.list_inj h h2
  | false => exact I.tuple_inj h h2
def ItZ (K : PySem.W.Frag) (f b1 b2 : Bool) (a b : Addr) : It :=
  ⟨fun i H => ∃ (xs ys : List V) (x y : V), SqB K b1 H a xs ∧ SqB K b2 H b ys ∧ xs[i]? = some x ∧ ys[i]? = some y,
    fun i H v H' => ∃ T x y o, v = .ref T ∧ o.dict = none ∧ H T = none ∧ H' = upd H T (.frz o (.tup [x, y])) ∧ (∀ xs, SqB K b1 H a xs → xs[i]? = some x) ∧ ∀ ys, SqB K b2 H b ys → ys[i]? = some y,
    fun i H => ∃ xs ys : List V, SqB K b1 H a xs ∧ SqB K b2 H b ys ∧ ZEnd f xs.length ys.length i⟩
theorem turn_zipF {P : Program} {w : World} {K : PySem.W.Frag} {elts : List Expr} {kk : Nat} {tpos : Pos} {f b1 b2 : Bool} {a b z TI TO i1 i2 : Addr} {xa ya : Array Value} (D : ZipApart z TI TO i1 i2 a b) :
    Turn P w K (.Tuple elts kk tpos) (ItZ K f b1 b2 a b) [z, TI, TO, i1, i2] z (fun i h => ZipF f h z TI TO .none ∧ IsPair h TI (.ref i1) (.ref i2) ∧ (∃ x y, IsPair h TO x y) ∧ (b1 = true → h.IsListIter i1 a i) ∧ (b1 = false → h.IsTupleIter i1 a i) ∧ (b2 = true → h.IsListIter i2 b i) ∧ (b2 = false → h.IsTupleIter i2 b i)) := by
  have toI : ∀ {b : Bool} {h : Heap} {I l : Addr} {k : Nat} {xs : Array Value}, (b = true → h.IsListIter I l k) → (b = false → h.IsTupleIter I l k) → SeqOf b h l xs → ItOf b h I l k xs := fun {b h I l k xs} c1 c2 c3 => by
    cases b with
    | true => exact ⟨c1 rfl, c3⟩
    | false => exact ⟨c2 rfl, c3⟩
  have ofI : ∀ {b : Bool} {h : Heap} {I l : Addr} {k : Nat} {xs : Array Value}, ItOf b h I l k xs → (b = true → h.IsListIter I l k) ∧ (b = false → h.IsTupleIter I l k) := fun {b h I l k xs} c => by
    cases b with
    | true => exact ⟨fun _ => c.1, fun z => nomatch z⟩
    | false => exact ⟨(fun z => nomatch z), fun _ => c.1⟩
  have isO : ∀ {b : Bool} {h : Heap} {I l : Addr} {k : Nat}, (b = true → h.IsListIter I l k) → (b = false → h.IsTupleIter I l k) → ∃ o, h.get? I = some o ∧ ∀ v, o.data ≠ .cell v := fun {b h I l k} c1 c2 => by
    cases b with
    | true =>
      obtain ⟨o, e, _, d⟩ := c1 rfl
      exact ⟨o, e, fun v q => by rw [d] at q; cases q⟩
    | false =>
      obtain ⟨o, e, _, d⟩ := c2 rfl
      exact ⟨o, e, fun v q => by rw [d] at q; cases q⟩
  refine ⟨by simp, fun i h st c hc => ?_, fun i h h' st k => ?_, ?_, ?_, fun A i s Q E st h => iter_zipF st.1 h⟩
  · obtain ⟨hz, hTI, ⟨x, y, hTO⟩, c1, c2, c3, c4⟩ := st
    have e' : c = z ∨ c = TI ∨ c = TO ∨ c = i1 ∨ c = i2 := by simpa using hc
    rcases e' with q | q | q | q | q
    · rw [q]; exact ⟨_, hz, fun v q => nomatch q⟩
    · rw [q]; exact ⟨_, hTI, fun v q => nomatch q⟩
    · rw [q]; exact ⟨_, hTO, fun v q => nomatch q⟩
    · rw [q]; exact isO c1 c2
    · rw [q]; exact isO c3 c4
  · obtain ⟨hz, hTI, ⟨x, y, hTO⟩, c1, c2, c3, c4⟩ := st
    exact ⟨k z (by simp) _ hz, k TI (by simp) _ hTI, ⟨x, y, k TO (by simp) _ hTO⟩, fun e => (c1 e).at fun o q => k i1 (by simp) o q, fun e => (c2 e).at fun o q => k i1 (by simp) o q, fun e => (c3 e).at fun o q => k i2 (by simp) o q, fun e => (c4 e).at fun o q => k i2 (by simp) o q⟩
  · intro X hP hw hK hc i pins s σ H E I hf st hg
    subst hP hw hK
    obtain ⟨hz, hTI, ⟨x0, y0, hTO⟩, c1, c2, c3, c4⟩ := st
    obtain ⟨xs, ys, x, y, hqx, hqy, hx, hy⟩ := hg
    obtain ⟨its, rv, p⟩ := seqB I hqx
    obtain ⟨its2, rv2, p2⟩ := seqB I hqy
    obtain ⟨u, hu, ru⟩ := rv.get hx
    obtain ⟨u2, hu2, ru2⟩ := rv2.get hy
    have hzl : z < s.heap.objs.size := Heap.lt_size hz
    refine next_zipF D hz hTI hTO (toI c1 c2 p) (toI c3 c4 p2) (x := u) (y := u2) (by simpa using hu) (by simpa using hu2) fun h' z' TO' h1' h2' hT hsz hk => ?_
    refine ⟨_, rfl, letGo_zipF (s := { s with heap := h' }) z' fun h'' z'' sb => ?_⟩
    have hT2 : h''.get? s.heap.objs.size = some (tuO [u, u2]) := (sb.2 _ (Nat.ne_of_gt hzl)).trans hT
    have new : ObjOk X.prog X.w (upd H s.heap.objs.size (tuZ [u, u2] [x, y])) h'' s.heap.objs.size (tuZ [u, u2] [x, y]) :=
      tuZ_ok (by show 2 ≤ sizeLine; decide) (.cons ru (.cons ru2 .nil)) hT2
    have I1 : Inv X pins σ (upd H s.heap.objs.size (tuZ [u, u2] [x, y])) { s with heap := h'' } :=
      I.turnedNew (t' := s.toks) (ch := [z, TI, TO, i1, i2]) (fun c o hb q => (sb.2 c (fun q' => hb (by simp [q']))).trans (hk c o (fun q' => hb (by simp [q'])) (fun q' => hb (by simp [q'])) (fun q' => hb (by simp [q'])) (fun q' => hb (by simp [q'])) q)) hf (Nat.le_refl _) new
    have h1'' := ofI (h1'.keep (fun o q => (sb.2 _ D.i1z).trans q) fun o q => (sb.2 _ D.l1z).trans q)
    have h2'' := ofI (h2'.keep (fun o q => (sb.2 _ D.i2z).trans q) fun o q => (sb.2 _ D.l2z).trans q)
    refine ⟨.ref s.heap.objs.size, _, I1, rfl, ⟨_, x, y, tuO [u, u2], rfl, rfl, I.hok.fresh (Nat.le_refl _), rfl, fun l hl => by rw [seqB_inj I hl hqx]; exact hx, fun l hl => by rw [seqB_inj I hl hqy]; exact hy⟩, ⟨z'', ?_, ⟨u, u2, ?_⟩, h1''.1, h1''.2, h2''.1, h2''.2⟩, fun c hcm => ?_⟩
    · exact (sb.2 _ D.TIz).trans (hk _ _ D.TIz D.TITO D.TIi1 D.TIi2 hTI)
    · exact (sb.2 _ D.TOz).trans TO'
    · have hlt : c < s.heap.objs.size := by
        have e' : c = z ∨ c = TI ∨ c = TO ∨ c = i1 ∨ c = i2 := by simpa using hcm
        rcases e' with q | q | q | q | q
        · rw [q]; exact hzl
        · rw [q]; exact Heap.lt_size hTI
        · rw [q]; exact Heap.lt_size hTO
        · rw [q]; obtain ⟨_, e1, _⟩ := isO c1 c2; exact Heap.lt_size e1
        · rw [q]; obtain ⟨_, e2, _⟩ := isO c3 c4; exact Heap.lt_size e2
      rw [upd_ne (Nat.ne_of_lt hlt)]
      exact (hf c hcm).1
  · intro X hP hw hK hc i pins s σ H E I hf st hg
    subst hP hw hK
    obtain ⟨hz, hTI, ⟨x0, y0, hTO⟩, c1, c2, c3, c4⟩ := st
    obtain ⟨xs, ys, hqx, hqy, hend⟩ := hg
    obtain ⟨its, rv, p⟩ := seqB I hqx
    obtain ⟨its2, rv2, p2⟩ := seqB I hqy
    have l1 := rv.length
    have l2 := rv2.length
    refine next_zipE (I.ok.hd hc) D hz hTI hTO (toI c1 c2 p) (toI c3 c4 p2) (by rw [List.size_toArray, List.size_toArray, ← l1, ← l2]; exact hend) fun h' hk => ⟨rfl, I.turnedL (t' := s.toks) (ch := [z, TI, TO, i1, i2]) (fun c o hb q =>
      hk c o (fun q' => hb (by simp [q'])) (fun q' => hb (by simp [q'])) (fun q' => hb (by simp [q'])) (fun q' => hb (by simp [q'])) q) hf⟩
/-- zip(a, b), zip(a, b, strict=True) -/
def zKs (f : Bool) (kp tp : Pos) (kk : Nat) : List Keyword := if f then [⟨some (Str.ofString "strict"), .Constant (.bool true) kk tp, kp⟩] else []
def iZF (K : PySem.W.Frag) (f : Bool) (ta : TA) : TI := fun σ H R => ta σ H fun vs H1 => ∃ a b b1 b2 xs ys, vs = [.ref a, .ref b] ∧ SqB K b1 H1 a xs ∧ SqB K b2 H1 b ys ∧ R (ItZ K f b1 b2 a b) H1
section
variable {M : Model} {A : Around} {E : Value → Shared → Prop} {s : Shared} {env : Env}
theorem callWith_typeKw {pos : Pos} {T : String} {first : List Value} {args : List (Bool × Sem Value)} {keywords : List (Option Str × Sem Value)} {Q : Value → Shared → Prop}
    (hplain : args.any (·.1) = false) (hkw : keywords.any (·.1.isNone) = false)
    (h : wpAny M A (evalArgs (.type T) true args keywords) (fun a s₁ => wpAny M A (call (.type T) (first ++ a.pos) a.kw) Q E s₁) E s) :
    wpAny M A (callWith pos (.type T) first args keywords) Q E s := by
  unfold callWith
  refine wpAny_bind (wpAny_holding (wpAny_mono h (fun a s₁ h₁ => wpAny_bind (wpAny_standAt ?_)) fun _ _ x => x))
  simp only [hplain, hkw, Bool.or_false]
  refine wpAny_bind (wpAny_pure ?_)
  exact wpAny_bind (wpAny_mono h₁ (fun r s₂ hr => wpAny_bind (wpAny_holding (wpAny_point (wpAny_pure hr)))) fun _ _ x => x)
end
theorem pi_zipF {X : Cx} {e e2 : Expr} {ta : TA} {p pos tpos kp tp : Pos} {elts : List Expr} {kk k2 : Nat} {f : Bool} (hg : Gl X "zip") (hm : X.mg "zip" = none) (ha : PA X [e, e2] ta)
    (hs : starEach [e, e2] X.env = (false, eval e X.env) :: starEach [e2] X.env) (hpl : (backTo pos (starEach [e2] X.env)).any (·.1) = false) :
    PI X (.Tuple elts kk tpos) (.Call (.Name "zip" p) [e, e2] (zKs f kp tp k2) pos) (iZF X.K f ta) := by
  refine ⟨fun pins s σ H R I h => ?_⟩
  have fin : ∀ (us : List Value) (s1 : Shared) (vs : List V) (H1 : Hp), Inv X pins σ H1 s1 → Vals vs us → (∃ a b b1 b2 xs ys, vs = [.ref a, .ref b] ∧ SqB X.K b1 H1 a xs ∧ SqB X.K b2 H1 b ys ∧ R (ItZ X.K f b1 b2 a b) H1) →
      wpAny (model X.prog X.w) X.A (call (.type "zip") us (zKw f)) (fun v s2 => wpAny (model X.prog X.w) X.A (pyIter v) (PIE X pins σ (.Tuple elts kk tpos) R) X.xe s2) X.xe s1 := by
    rintro us s1 vs H1 I1 r1 ⟨a, b, b1, b2, xs, ys, rfl, hqx, hqy, q⟩
    cases r1 with
    | cons r rr =>
      cases rr with
      | cons r' rr =>
        cases rr
        cases r
        cases r'
        obtain ⟨its, rv, p1⟩ := seqB I1 hqx
        obtain ⟨its2, rv2, p2⟩ := seqB I1 hqy
        have la : a < s1.heap.objs.size := p1.lt
        have lb : b < s1.heap.objs.size := p2.lt
        refine call_zipF (f := f) p1 p2 fun h' hz hTI hTO h1 h2 hsz hk => iter_zipF hz ?_
        have I2 : Inv X pins σ H1 { s1 with heap := h' } := I1.kept (t' := s1.toks) hk
        have ofI : ∀ {b : Bool} {h : Heap} {I l : Addr} {k : Nat} {xs : Array Value}, ItOf b h I l k xs → (b = true → h.IsListIter I l k) ∧ (b = false → h.IsTupleIter I l k) := fun {b h I l k xs} c => by
          cases b with
          | true => exact ⟨fun _ => c.1, fun z => nomatch z⟩
          | false => exact ⟨(fun z => nomatch z), fun _ => c.1⟩
        refine ⟨s1.heap.objs.size + 4, [s1.heap.objs.size + 4, s1.heap.objs.size + 2, s1.heap.objs.size + 3, s1.heap.objs.size, s1.heap.objs.size + 1], _, _, H1, rfl, I2, turn_zipF (xa := #[]) (ya := #[]) (PySem.W.ktu_apart s1.heap.objs.size a b la lb), ⟨hz, hTI, ⟨_, _, hTO⟩, (ofI h1).1, (ofI h1).2, (ofI h2).1, (ofI h2).2⟩, fun c hcm => ?_, q⟩
        have e' : c = s1.heap.objs.size + 4 ∨ c = s1.heap.objs.size + 2 ∨ c = s1.heap.objs.size + 3 ∨ c = s1.heap.objs.size ∨ c = s1.heap.objs.size + 1 := by simpa using hcm
        have hle : s1.heap.objs.size ≤ c := by
          rcases e' with z | z | z | z | z
          · rw [z]; exact Nat.le_add_right _ _
          · rw [z]; exact Nat.le_add_right _ _
          · rw [z]; exact Nat.le_add_right _ _
          · rw [z]; exact Nat.le_refl _
          · rw [z]; exact Nat.le_add_right _ _
        exact I1.fpOk hle (I1.hok.fresh hle)
  cases f with
  | false =>
    show wpAny _ _ (eval (.Call (.Name "zip" p) [e, e2] [] pos) X.env) _ _ s
    exact Call_ (ld_blt I hg hm PyProof.Rows.boot_zip (PyProof.Rows.callWith_type1 (thn (ha.run pos pins s σ H _ I h) fun us s1 ⟨vs, H1, I1, r1, q1⟩ => fin us s1 vs H1 I1 r1 q1) hs hpl))
  | true =>
    show wpAny _ _ (eval (.Call (.Name "zip" p) [e, e2] [⟨some (Str.ofString "strict"), .Constant (.bool true) k2 tp, kp⟩] pos) X.env) _ _ s
    refine wpAny_Call_Name_kw (ld_blt I hg hm PyProof.Rows.boot_zip (callWith_typeKw ?_ (by rfl) ?_))
    · rw [hs]
      exact hpl
    · have ha' := ha.run pos pins s σ H _ I h
      rw [hs] at ha' ⊢
      refine PyProof.Rows.evalArgs_kwB (by rfl) (thn ha' fun us s1 ⟨vs, H1, I1, r1, q1⟩ => ?_)
      have pk : PK X [⟨some (Str.ofString "strict"), .Constant (.bool true) k2 tp, kp⟩] (tCons (tC (.bl true)) tNil) := pk_cons pe_bl pk_nil
      refine thn (pk.run pos pins s1 σ H1 (fun zs H2 => zs = [.bl true] ∧ H2 = H1) I1 ⟨rfl, rfl⟩) fun ws s2 ⟨zs, H2, I2, r2, ez, eH⟩ => ?_
      subst ez eH
      cases r2 with
      | cons rb rr =>
        cases rr
        cases rb
        exact fin us s2 vs H2 I2 r1 q1
end Cv

/-! Cs21: what a dict holds, gathered: sorted(d.items()), list(d.items()), sorted(d), list(d), len(d). -/
namespace Cv
open PySem PySem.Spec PyProof.Rows L2 PySem.W
section
variable {P : Program} {w : World} {A : Around} {E : Value → Shared → Prop} {s : Shared}
/-- sorted of whatever is gathered -/
theorem sorted_gen {β : Type} {src : Value} {Q : Value → Shared → Prop} {G : Shared → List Value → Prop}
    (hc : ∀ (R : List Value → Shared → Prop) (E' : Value → Shared → Prop), (∀ s1 vs, G s1 vs → R vs s1) → wpAny (model P w) A.in1 (collect src) R E' s)
    (hs : ∀ s1 vs, G s1 vs → ∃ (bs : List β) (enc : β → PyData) (R : Value → β → Prop), EachIs R vs bs ∧ EachIs (fun v b => ∃ as, Reads s1.heap v (enc b) as) vs bs ∧ AllAlike (bs.map enc) ∧ (∀ d ∈ bs.map enc, d ≠ .none) ∧ bs.length ≤ sizeLine ∧ (∀ b, b ∈ bs → A.units + 2 + (enc b).depth < cLine) ∧
      ∀ s' p c (out : List Value), EachIs R out (bs.mergeSort (dataLe false enc)) → (∀ b o, s1.heap.get? b = some o → s'.heap.get? b = some o) → s'.gens = s1.gens → s'.os = s1.os → s1.heap.objs.size ≤ p → s'.heap.get? p = some (seqObj "list" out.toArray c) → Q (.ref p) s') :
    wpAny (model P w) A (call (.builtin "sorted") [src]) Q E s := by
  refine sorted_gather fun E' => hc _ E' fun s1 vs g => ?_
  obtain ⟨bs, enc, R, e, er, hal, hn, hL, hu, h⟩ := hs s1 vs g
  have len : vs.length = bs.length := e.length
  have old : ∀ {b : Addr} {u : Obj}, s1.heap.get? b = some u → (sortingHeap (s1.heap.push (seqObj "list" vs.toArray 0)) s1.heap.objs.size vs).get? b = some u := fun {b u} q =>
    sortingHeap_old (Nat.ne_of_lt (Heap.lt_size q)) (Heap.get?_push_of_some _ q)
  have er' : EachIs (fun v b => ∃ as, Reads (sortingHeap (s1.heap.push (seqObj "list" vs.toArray 0)) s1.heap.objs.size vs) v (enc b) as) vs bs := er.mono fun _ _ ⟨as, r⟩ => ⟨as, PyProof.Rows.Reads.keeps (fun _ _ => old) r⟩
  refine ⟨by rw [len]; exact hL, dataKind (sortingHeap (s1.heap.push (seqObj "list" vs.toArray 0)) s1.heap.objs.size vs) (bs.map enc), ?_, ?_⟩
  · refine sortsAny (s := { s1 with heap := sortingHeap (s1.heap.push (seqObj "list" vs.toArray 0)) s1.heap.objs.size vs }) (each_map (R := fun v d => ∃ as, Reads (sortingHeap (s1.heap.push (seqObj "list" vs.toArray 0)) s1.heap.objs.size vs) v d as) enc er') hal hn fun d hd => ?_
    obtain ⟨b, hb, rfl⟩ := List.mem_map.mp hd
    exact hu b hb
  · have ho1 : (s1.heap.push (seqObj "list" vs.toArray 0)).get? s1.heap.objs.size = some (seqObj "list" vs.toArray 0) := Heap.get?_push_size _ rfl
    obtain ⟨c, hc⟩ := sortedHeap_at (vs := vs) (out := (sortVals (dataKind (sortingHeap (s1.heap.push (seqObj "list" vs.toArray 0)) s1.heap.objs.size vs) (bs.map enc)) false vs vs).toArray) ho1
    refine h _ _ c _ (sortVals_data false e er' hal) (fun b u q => ?_) rfl rfl (Nat.le_refl _) hc
    have lt := Heap.lt_size q
    show (sortedHeap (s1.heap.push (seqObj "list" vs.toArray 0)) s1.heap.objs.size vs _).get? b = some u
    rw [sortedHeap_old (Nat.ne_of_lt lt) (by rw [size_push']; exact Nat.lt_succ_of_lt lt)]
    exact Heap.get?_push_of_some _ q
/-- list(a view), told by its object -/
theorem initI {R : Result → Shared → Prop} {r d : Addr} {es : Array DictEntry} {ep : Nat} (hh : A.handled = none) (hv : s.heap.IsItemsView r d) (hm : DT.Raw s.heap d es ep) (S : Addr) (hSr : S ≠ r) (hSd : d ≠ S) (hS : s.heap.get? S = some { cls := .type "list", data := .seq #[] })
    (hR : ∀ h' tk acc c as, (∀ b o, b ≠ S → s.heap.get? b = some o → h'.get? b = some o) → h'.get? S = some { cls := .type "list", dict := none, data := .seq acc c, slots := #[] } → as.length = es.size → DT.Made es S h' as →
      acc.toList = as.map Value.ref → R (.ok (.ret .none)) { s with heap := h', toks := tk }) (hn : es.size ≤ sizeLine) :
    wpAny (model P w) A.in1 (Builtin.«list.__init__» ⟨[.ref S, .ref r], []⟩)
      (fun fin s' => match fin with | .done f => R (.ok f) s' | .again c' => c'.quiet = true ∧ codeAny (model P w) A c' R s') (fun e s' => R (.error e) s') s := by
  show wpAny _ _ (do let old ← Builtin.List.listItems (.ref S); Builtin.List.listUpdate (.ref S) (fun _ => #[]); letGo old.toList.reverse; Builtin.List.listExtendWith (.ref S) (.ref r) .none) _ _ s
  refine wpAny_bind ?_
  unfold Builtin.List.listItems
  refine wpAny_bind (wpAny_seqItems hS rfl (wpAny_pure ?_))
  show wpAny _ _ (updateSeq S (fun _ => #[]) >>= fun _ => letGo (#[] : Array Value).toList.reverse >>= fun _ => Builtin.List.listExtendWith (.ref S) (.ref r) .none) _ _ s
  refine wpAny_bind (wpAny_updateSeq hS rfl ?_)
  have hS₂ := Heap.get?_update_self (Obj.mapSeq (fun _ => (#[] : Array Value))) hS rfl
  have oth : ∀ b o, b ≠ S → s.heap.get? b = some o → (s.heap.update S (Obj.mapSeq (fun _ => (#[] : Array Value)))).get? b = some o :=
    fun b o hb e => (Heap.get?_update_other _ _ (Ne.symm hb)).trans e
  refine wpAny_bind (wpAny_letGo ?_)
  refine DT.extI (es := es) (ep := ep) hh (let ⟨o, ho, x⟩ := hv; ⟨o, oth r o hSr.symm ho, x⟩) (hm.at' fun o e => oth d o hSd e) S hSr hSd .none _ hS₂ (fun h' tk acc c as hk hS' hl hG hacc => ?_) hn
  exact hR h' tk acc c as (fun b o hb e => hk b o hb (oth b o hb e)) hS' hl (hG.low (Nat.le_of_lt (Heap.lt_size hS₂))) hacc
theorem listI {Q : Value → Shared → Prop} {r d : Addr} {es : Array DictEntry} {ep : Nat} (hh : A.handled = none) (hv : s.heap.IsItemsView r d) (hm : DT.Raw s.heap d es ep) (hn : es.size ≤ sizeLine)
    (hQ : ∀ h' tk acc c as, (∀ b o, s.heap.get? b = some o → h'.get? b = some o) → h'.get? s.heap.objs.size = some { cls := .type "list", dict := none, data := .seq acc c, slots := #[] } → as.length = es.size → DT.Made es s.heap.objs.size h' as →
      acc.toList = as.map Value.ref → Q (.ref s.heap.objs.size) { s with heap := h', toks := tk }) :
    wpAny (model P w) A (call (.type "list") [.ref r]) Q E s := by
  refine callType_codes (Q₁ := fun obj s₁ => obj = .ref s.heap.objs.size ∧ s₁ = { s with heap := s.heap.push { cls := .type "list", data := .seq #[] } }) PySem.F.called_list (PySem.F.typeCall_list_1 _) PySem.F.entry_list_init
    (code_list_new _ ⟨rfl, rfl⟩) fun obj s₁ h₁ => ?_
  obtain ⟨rfl, rfl⟩ := h₁
  have hS : (s.heap.push { cls := .type "list", data := .seq #[] }).get? s.heap.objs.size = some { cls := .type "list", data := .seq #[] } := Heap.get?_push_size _ rfl
  have hr : r < s.heap.objs.size := let ⟨_, ho, _⟩ := hv; Heap.lt_size ho
  have hd : d < s.heap.objs.size := hm.lt
  refine ⟨⟨_, hS, rfl⟩, PySem.F.args_list_init_2 _ _, initI (es := es) (ep := ep) (A := A.in1) hh (let ⟨o, ho, x⟩ := hv; ⟨o, Heap.get?_push_of_some _ ho, x⟩) (hm.push _) _ (Nat.ne_of_gt hr) (Nat.ne_of_lt hd) hS (fun h' tk acc c as hk hS' hl hG hacc => ?_) hn⟩
  exact ⟨rfl, hQ h' tk acc c as (fun b o e => hk b o (Nat.ne_of_lt (Heap.lt_size e)) (Heap.get?_push_of_some _ e)) hS' hl hG hacc⟩
end
section
variable {X : Cx} {pins : List (Addr × Obj)} {σ : L2.St} {H : Hp} {s : Shared} {a : Addr} {L : List Ev3}
/-- objects already laid are tracked -/
theorem takeZ {H0 : Hp} {h' : Heap} {tk : Nat} (I0 : Inv X pins σ H0 s) : ∀ (L : List (Addr × HO)) (H1 : Hp), Inv X pins σ H1 { s with heap := h', toks := tk } → (L.map (·.1)).Nodup →
    (∀ p ∈ L, s.heap.objs.size ≤ p.1 ∧ H1 p.1 = none ∧ ∀ H2, ObjOk X.prog X.w H2 h' p.1 p.2) →
    ∃ H2, Inv X pins σ H2 { s with heap := h', toks := tk } ∧ (∀ b, b ∉ L.map (·.1) → H2 b = H1 b) ∧ ∀ p ∈ L, H2 p.1 = some p.2
  | [], H1, I1, _, _ => ⟨H1, I1, fun _ _ => rfl, fun _ h => nomatch h⟩
  | p :: L, H1, I1, hn, h => by
    obtain ⟨hb, hnone, ok⟩ := h p List.mem_cons_self
    have I2 : Inv X pins σ (upd H1 p.1 p.2) { s with heap := h', toks := tk } := I1.take (h' := h') (t' := tk) (fun b ob _ e => e) (I0.fpOk hb hnone) (ok _)
    rw [List.map_cons, List.nodup_cons] at hn
    obtain ⟨H2, I3, g, q⟩ := takeZ I0 L (upd H1 p.1 p.2) I2 hn.2 fun c hc => by
      obtain ⟨c1, c2, c3⟩ := h c (List.mem_cons_of_mem _ hc)
      exact ⟨c1, by rw [upd_ne (fun z => hn.1 (by rw [← z]; exact List.mem_map_of_mem hc))]; exact c2, c3⟩
    refine ⟨H2, I3, fun b hb => ?_, fun c hc => ?_⟩
    · rw [List.map_cons] at hb
      rw [g b fun z => hb (List.mem_cons_of_mem _ z), upd_ne fun z => hb (by rw [z]; exact List.mem_cons_self)]
    · rcases List.mem_cons.mp hc with rfl | hc
      · rw [g _ hn.1]; exact upd_same
      · exact q c hc
/-- the pairs of a dict, newly laid -/
structure ItemsAt (H H2 : Hp) (L : List Ev3) (as : List Addr) : Prop where
  len : as.length = L.length
  nd : as.Nodup
  new : ∀ b ∈ as, H b = none
  off : ∀ b, b ∉ as → H2 b = H b
  at_ : ∀ (j : Nat) b p, as[j]? = some b → L[j]? = some p → ∃ o, o.dict = none ∧ H2 b = some (.frz o (.tup [p.1, p.2.2]))
theorem vals_refs : ∀ as : List Addr, Vals (as.map V.ref) (as.map Value.ref)
  | [] => .nil
  | _ :: as => .cons rfl (vals_refs as)
theorem ep_getL : ∀ {ps : List Ev3} {qs : List En3}, EP ps qs → ∀ {j : Nat} {q : En3}, qs[j]? = some q → ∃ p, ps[j]? = some p ∧ RelV p.1 q.1 ∧ RelV p.2.2 q.2.2
  | _, _, .nil, j, q, h => by simp at h
  | _, _, .cons a b t, 0, q, h => by
    simp at h
    subst h
    exact ⟨_, rfl, a, b⟩
  | _, _, .cons a b t, j + 1, q, h => by
    obtain ⟨p, h1, h2⟩ := ep_getL t (j := j) (by simpa using h)
    exact ⟨p, by simpa using h1, h2⟩
theorem dcV_raw (I : Inv X pins σ H s) (h : DcAt X.w H a L) : ∃ (L' : List En3) (es : Array DictEntry) (ep : Nat), EP L L' ∧ (a == sysModules) = false ∧ DT.Raw s.heap a es ep ∧ es.toList = L'.map (entK X.w) ∧ es.size = L.length := by
  obtain ⟨L', x, R⟩ := dcV_get I h
  obtain ⟨o, es, ep, ho, hx, hd, he⟩ := R.ob
  refine ⟨L', es, ep, x, R.sys, ⟨o, ho, hx, hd⟩, he, ?_⟩
  rw [← Array.length_toList, he, List.length_map, x.len]
/-- the pairs come to be known -/
theorem items_take {h' : Heap} {tk : Nat} {es : Array DictEntry} {lo : Addr} {as : List Addr} {L' : List En3} {more : List (Addr × HO)} (I0 : Inv X pins σ H s) (x : EP L L') (he : es.toList = L'.map (entK X.w)) (hk : ∀ b o, s.heap.get? b = some o → h'.get? b = some o)
    (hl : as.length = es.size) (hG : DT.Made es lo h' as) (hlo : s.heap.objs.size ≤ lo) (mn : (more.map (·.1)).Nodup) (mo : ∀ p ∈ more, s.heap.objs.size ≤ p.1 ∧ p.1 ∉ as ∧ ∀ H2, ObjOk X.prog X.w H2 h' p.1 p.2) :
    ∃ H2, Inv X pins σ H2 { s with heap := h', toks := tk } ∧ (∀ b, b ∉ as → b ∉ more.map (·.1) → H2 b = H b) ∧ (∀ p ∈ more, H2 p.1 = some p.2) ∧ as.length = L.length ∧ as.Nodup ∧ (∀ b ∈ as, H b = none) ∧
      ∀ (j : Nat) b p, as[j]? = some b → L[j]? = some p → ∃ o, o.dict = none ∧ H2 b = some (.frz o (.tup [p.1, p.2.2])) := by
  have sz : es.size = L.length := by rw [← Array.length_toList, he, List.length_map, x.len]
  have nd : as.Nodup := List.Pairwise.imp (fun h => Nat.ne_of_lt h) hG.rise
  have I1 : Inv X pins σ H { s with heap := h', toks := tk } := I0.kept hk
  have fr : ∀ b, s.heap.objs.size ≤ b → H b = none := fun b hb => I0.hok.fresh hb
  -- the pairs, one by one
  have key : ∀ (j : Nat) b, as[j]? = some b → ∃ p u r, L[j]? = some p ∧ RelV p.1 u ∧ RelV p.2.2 r ∧ h'.get? b = some (tuO [u, r]) := fun j b hj => by
    obtain ⟨e, e1, e2⟩ := hG.pairs j b hj
    have e3 : (L'.map (entK X.w))[j]? = some e := by rw [← he, Array.getElem?_toList]; exact e1
    rw [List.getElem?_map] at e3
    obtain ⟨q, q1, q2⟩ := Option.map_eq_some_iff.mp e3
    obtain ⟨p, p1, p2, p3⟩ := ep_getL x q1
    subst q2
    exact ⟨p, q.1, q.2.2, p1, p2, p3, e2⟩
  have T : ∀ b ∈ as, ∃ t : HO, (∀ H2, ObjOk X.prog X.w H2 h' b t) ∧ ∀ (j : Nat) p, as[j]? = some b → L[j]? = some p → ∃ o, o.dict = none ∧ t = .frz o (.tup [p.1, p.2.2]) := fun b hb => by
    obtain ⟨j, hj⟩ := List.mem_iff_getElem?.mp hb
    obtain ⟨p, u, r, p1, p2, p3, p4⟩ := key j b hj
    refine ⟨tuZ [u, r] [p.1, p.2.2], fun H2 => tuZ_ok (by show 2 ≤ sizeLine; decide) (.cons p2 (.cons p3 .nil)) p4, fun i p' hi hp' => ?_⟩
    have : i = j := by
      obtain ⟨l1, g1⟩ := List.getElem?_eq_some_iff.mp hi
      obtain ⟨l2, g2⟩ := List.getElem?_eq_some_iff.mp hj
      exact (List.getElem_inj nd).mp (g1.trans g2.symm)
    subst this
    rw [p1] at hp'
    cases hp'
    exact ⟨tuO [u, r], rfl, rfl⟩
  have TL : ∀ l : List Addr, (∀ b ∈ l, b ∈ as) → ∃ tl : List (Addr × HO), tl.map (·.1) = l ∧ ∀ q ∈ tl, (∀ H2, ObjOk X.prog X.w H2 h' q.1 q.2) ∧ ∀ (j : Nat) p, as[j]? = some q.1 → L[j]? = some p → ∃ o, o.dict = none ∧ q.2 = .frz o (.tup [p.1, p.2.2]) := by
    intro l
    induction l with
    | nil => exact fun _ => ⟨[], rfl, fun _ h => nomatch h⟩
    | cons b l ih =>
      intro hb
      obtain ⟨tl, t1, t2⟩ := ih fun c hc => hb c (List.mem_cons_of_mem _ hc)
      obtain ⟨t, t3, t4⟩ := T b (hb b List.mem_cons_self)
      refine ⟨(b, t) :: tl, by rw [List.map_cons, t1], fun q hq => ?_⟩
      rcases List.mem_cons.mp hq with rfl | hq
      · exact ⟨t3, t4⟩
      · exact t2 q hq
  obtain ⟨tl, t1, t2⟩ := TL as fun _ h => h
  obtain ⟨H2, I2, g1, g2⟩ := takeZ I0 (tl ++ more) H I1 (by
    rw [List.map_append, t1]
    refine List.nodup_append.mpr ⟨nd, mn, fun b hb c hc e => ?_⟩
    subst e
    obtain ⟨p, hp, rfl⟩ := List.mem_map.mp hc
    exact (mo p hp).2.1 hb) (fun p hp => by
    rcases List.mem_append.mp hp with hp | hp
    · have hb : p.1 ∈ as := by rw [← t1]; exact List.mem_map_of_mem hp
      have := hG.above p.1 hb
      have hle : s.heap.objs.size ≤ p.1 := Nat.le_trans hlo (Nat.le_of_lt this)
      exact ⟨hle, fr _ hle, (t2 p hp).1⟩
    · exact ⟨(mo p hp).1, fr _ (mo p hp).1, (mo p hp).2.2⟩)
  refine ⟨H2, I2, fun b h1 h2 => g1 b (by rw [List.map_append, t1]; exact fun z => (List.mem_append.mp z).elim h1 h2), fun p hp => g2 p (List.mem_append_right _ hp), by omega, nd, fun b hb => fr b (Nat.le_trans hlo (Nat.le_of_lt (hG.above b hb))), fun j b p hj hp => ?_⟩
  have hb : b ∈ tl.map (·.1) := by rw [t1]; exact List.mem_of_getElem? hj
  obtain ⟨q, hq, rfl⟩ := List.mem_map.mp hb
  obtain ⟨o, o1, o2⟩ := (t2 q hq).2 j p hj hp
  exact ⟨o, o1, by rw [g2 q (List.mem_append_left _ hq), o2]⟩
/-- e.items() -/
def tDcItems (w : World) (te : TE) : TE := fun σ H Q => te σ H fun x H1 => ∃ a L, x = .ref a ∧ DcAt w H1 a L ∧ ∀ p, H1 p = none → Q (.ref p) (upd H1 p (L2.DX.itemsO p a))
theorem pe_dcItems {e : Expr} {te : TE} {apos cpos : Pos} (he : PE X e te) (hbase : attributeBase e "items" X.env (eval e X.env) = eval e X.env) (hline : (apos.endLine == cpos.line) = true) :
    PE X (.Call (.Attribute e "items" apos) [] [] cpos) (tDcItems X.w te) := by
  refine ⟨fun pins s σ H Q I h => ?_⟩
  refine wpAny_Call_method0_late hbase hline (thn (he.run pins s σ H _ I h) fun u s1 ⟨x, H1, I1, rx, a, L, ex, hd, q⟩ => ?_)
  subst ex
  obtain rfl : u = Value.ref a := rx
  obtain ⟨L', es, ep, _, sy, raw, _, _⟩ := dcV_raw I1 hd
  refine ⟨"dict", "dict.items", PySem.F.plainAttrs_dict, PySem.F.slot_dict_items, PySem.F.type_dict_items, dc_type I1 hd, dc_noDict I1 hd, ?_⟩
  refine Calls.callWith_builtin rfl (PySem.evalArgs_none (DT.callItems sy raw ?_))
  exact ⟨.ref s1.heap.objs.size, _, I1.laid (t' := s1.toks) (o := L2.DX.itemsO s1.heap.objs.size a) (fun b u e => Heap.get?_push_of_some _ e) (Nat.le_refl _) (L2.DX.itemsO_ok (Heap.get?_push_size _ rfl)), rfl, q _ (I1.hok.fresh (Nat.le_refl _))⟩
/-- sorted(a view) -/
def rSrtIt (K : PySem.W.Frag) (w : World) : List V → Hp → VK → Prop := fun vs H Q => ∃ v a L, vs = [.ref v] ∧ H v = some (L2.DX.itemsO v a) ∧ DcAt w H a L ∧ L.length ≤ sizeLine ∧
  ∀ H2 as, ItemsAt H H2 L as → ∃ ps : List Vd, ps.map (·.1) = as.map V.ref ∧ SrtOk K H2 ps ∧ ∀ q, H2 q = none → Q (.ref q) (upd H2 q (.lst ((ps.mergeSort leV).map (·.1))))
theorem cr_srtIt (hc : X.calm = true) (hu : X.A.units + 200 < cLine) : CallR X (.builtin "sorted") (rSrtIt X.K X.w) := by
  intro pins s σ H vs us Q I r h
  obtain ⟨v, a, L, rfl, hv, ha, hz, q⟩ := h
  rw [Vals.ref1 r]
  have view : s.heap.IsItemsView v a := (show ObjOk X.prog X.w H s.heap v (L2.DX.itemsO v a) from I.hok v _ hv).1
  obtain ⟨L', es, ep, x, sy, raw, he, sz⟩ := dcV_raw I ha
  refine sorted_gen (P := X.prog) (w := X.w) (β := Vd) (G := fun s1 vs => ∃ h' tk as, s1 = { s with heap := h', toks := tk } ∧ vs = as.map Value.ref ∧ (∀ b o, s.heap.get? b = some o → h'.get? b = some o) ∧ as.length = es.size ∧ DT.Made es s.heap.objs.size h' as)
    (fun R E' h => DT.collectI (A := X.A.in1) (I.ok.hd hc) view raw (by omega) fun h' tk as hk hlt hl hG => h _ _ ⟨h', tk, as, rfl, rfl, hk, hl, hG⟩) ?_
  rintro s1 vs ⟨h', tk, as, rfl, rfl, hk, hl, hG⟩
  obtain ⟨H2, I2, g1, _, g3, g4, g5, g6⟩ := items_take (tk := tk) (more := []) I x he hk hl hG (Nat.le_refl _) List.nodup_nil (fun _ z => nomatch z)
  obtain ⟨ps, e1, S, q⟩ := q H2 as ⟨g3, g4, g5, fun b hb => g1 b hb (by simp), g6⟩
  have rv : Vals (ps.map (·.1)) (as.map Value.ref) := by rw [e1]; exact vals_refs as
  have rd : ∀ p ∈ ps, ∀ u, RelV p.1 u → ∃ as', Reads h' u p.2 as' := fun p hp u ru => Dp.reads I2 _ _ _ (S.dat p hp) ru
  refine ⟨ps, fun p => p.2, fun u p => RelV p.1 u, each_of rv fun p _ u ru => ru, each_of rv rd, S.alike, fun d hd => ?_, S.few, fun p hp => (by have := S.depth p hp; show X.A.units + 2 + p.2.depth < cLine; omega), fun s' p c out z k g o hp hq => ?_⟩
  · obtain ⟨p, h1, rfl⟩ := List.mem_map.mp hd
    exact S.some p h1
  · refine ⟨.ref p, _, new_at I2 (o := .lst ((ps.mergeSort leV).map (·.1))) k g o hp ⟨?_, out, c, of_each z, hq⟩, rfl, q p (I2.hok.fresh hp)⟩
    rw [List.length_map, List.length_mergeSort]
    exact S.few
/-- list(a view) -/
def rLstIt (w : World) : List V → Hp → VK → Prop := fun vs H Q => ∃ v a L, vs = [.ref v] ∧ H v = some (L2.DX.itemsO v a) ∧ DcAt w H a L ∧ L.length ≤ sizeLine ∧
  ∀ H2 as q, ItemsAt H H2 L as → H2 q = none → Q (.ref q) (upd H2 q (.lst (as.map V.ref)))
theorem cr_lstIt (hc : X.calm = true) : CallR X (.type "list") (rLstIt X.w) := by
  intro pins s σ H vs us Q I r h
  obtain ⟨v, a, L, rfl, hv, ha, hz, q⟩ := h
  rw [Vals.ref1 r]
  have view : s.heap.IsItemsView v a := (show ObjOk X.prog X.w H s.heap v (L2.DX.itemsO v a) from I.hok v _ hv).1
  obtain ⟨L', es, ep, x, sy, raw, he, sz⟩ := dcV_raw I ha
  refine listI (I.ok.hd hc) view raw (by omega) fun h' tk acc c as hk hS hl hG hacc => ?_
  have nS : s.heap.objs.size ∉ as := fun z => Nat.lt_irrefl _ (hG.above _ z)
  have I1 : Inv X pins σ H { s with heap := h', toks := tk } := I.kept hk
  obtain ⟨H2, I2, g1, _, g3, g4, g5, g6⟩ := items_take (tk := tk) (more := []) I x he hk hl hG (Nat.le_refl _) List.nodup_nil (fun _ z => nomatch z)
  have fS : H2 s.heap.objs.size = none := by rw [g1 _ nS (by simp)]; exact I.hok.fresh (Nat.le_refl _)
  have lst : ∀ H3, ObjOk X.prog X.w H3 h' s.heap.objs.size (.lst (as.map V.ref)) := fun H3 => ⟨by rw [List.length_map]; omega, acc.toList, c, by rw [hacc]; exact vals_refs as, by rw [Array.toArray_toList]; exact hS⟩
  have I3 : Inv X pins σ (upd H2 s.heap.objs.size (.lst (as.map V.ref))) { s with heap := h', toks := tk } := I2.take (h' := h') (t' := tk) (fun b ob _ e => e) (I.fpOk (Nat.le_refl _) fS) (lst _)
  exact ⟨.ref s.heap.objs.size, _, I3, rfl, q H2 as _ ⟨g3, g4, g5, fun b hb => g1 b hb (by simp), g6⟩ fS⟩
/-- the keys, in a row -/
theorem keysV_read {es : Array DictEntry} {L' : List En3} {acc : Array Value} (x : EP L L') (he : es.toList = L'.map (entK X.w)) (it : ItemsOf (fun i v => ∃ en : DictEntry, es[i]? = some en ∧ v = en.key) acc es.size) : Vals (L.map (·.1)) acc.toList := by
  have ea : acc.toList = L'.map (·.1) := by
    have hl : acc.toList.length = L'.length := by rw [Array.length_toList, it.1, ← Array.length_toList, he, List.length_map]
    apply List.ext_getElem?
    intro j
    rw [List.getElem?_map]
    cases hj : acc.toList[j]? with
    | none =>
      have h1 := List.getElem?_eq_none_iff.mp hj
      rw [List.getElem?_eq_none (by omega)]
      rfl
    | some v =>
      obtain ⟨en, hen, hv⟩ := it.2 j v (by rw [← Array.getElem?_toList]; exact hj)
      have e3 : (L'.map (entK X.w))[j]? = some en := by rw [← he, Array.getElem?_toList]; exact hen
      rw [List.getElem?_map] at e3
      obtain ⟨q, q1, q2⟩ := Option.map_eq_some_iff.mp e3
      subst q2
      rw [q1, hv]
      rfl
  rw [ea]
  clear ea it he
  induction x with
  | nil => exact .nil
  | cons a b t ih => exact .cons a ih
/-- sorted(a dict) -/
def rSrtKy (K : PySem.W.Frag) (w : World) : List V → Hp → VK → Prop := fun vs H Q => ∃ a L, vs = [.ref a] ∧ DcAt w H a L ∧ SrtOk K H (L.map fun p => (p.1, p.2.1.data)) ∧
  ∀ q, H q = none → Q (.ref q) (upd H q (.lst (((L.map fun p => ((p.1, p.2.1.data) : Vd)).mergeSort leV).map (·.1))))
theorem cr_srtKy (hc : X.calm = true) (hu : X.A.units + 200 < cLine) : CallR X (.builtin "sorted") (rSrtKy X.K X.w) := by
  intro pins s σ H vs us Q I r h
  obtain ⟨a, L, rfl, ha, S, q⟩ := h
  rw [Vals.ref1 r]
  obtain ⟨L', es, ep, x, sy, ⟨o, ho, hx, hd⟩, he, sz⟩ := dcV_raw I ha
  have few := S.few
  rw [List.length_map] at few
  generalize hps : (L.map fun p => ((p.1, p.2.1.data) : Vd)) = ps at S q
  have e1 : ps.map (·.1) = L.map (·.1) := by rw [← hps, List.map_map]; rfl
  refine sorted_gen (P := X.prog) (w := X.w) (β := Vd) (G := fun s1 vs => ∃ h' tk acc, s1 = { s with heap := h', toks := tk } ∧ vs = acc.toList ∧ (∀ b o, s.heap.get? b = some o → h'.get? b = some o) ∧ ItemsOf (fun i v => ∃ en : DictEntry, es[i]? = some en ∧ v = en.key) acc es.size)
    (fun R E' h => PySem.W.kdu_collect (A := X.A.in1) (L2.kdl_raw sy hx hd) (I.ok.hd hc) ho (by omega) fun h' tk acc hk it => h _ _ ⟨h', tk, acc, rfl, rfl, hk, it⟩) ?_
  rintro s1 vs ⟨h', tk, acc, rfl, rfl, hk, it⟩
  have I2 : Inv X pins σ H { s with heap := h', toks := tk } := I.kept hk
  have rv : Vals (ps.map (·.1)) acc.toList := by rw [e1]; exact keysV_read x he it
  have rd : ∀ p ∈ ps, ∀ u, RelV p.1 u → ∃ as', Reads h' u p.2 as' := fun p hp u ru => Dp.reads I2 _ _ _ (S.dat p hp) ru
  refine ⟨ps, fun p => p.2, fun u p => RelV p.1 u, each_of rv fun p _ u ru => ru, each_of rv rd, S.alike, fun d hd => ?_, S.few, fun p hp => (by have := S.depth p hp; show X.A.units + 2 + p.2.depth < cLine; omega), fun s' p c out z k g o hp hq => ?_⟩
  · obtain ⟨p, h1, rfl⟩ := List.mem_map.mp hd
    exact S.some p h1
  · refine ⟨.ref p, _, new_at I2 (o := .lst ((ps.mergeSort leV).map (·.1))) k g o hp ⟨?_, out, c, of_each z, hq⟩, rfl, q p (I2.hok.fresh hp)⟩
    rw [List.length_map, List.length_mergeSort]
    exact S.few
/-- list(a dict) -/
def rLstKy (w : World) : List V → Hp → VK → Prop := fun vs H Q => ∃ a L, vs = [.ref a] ∧ DcAt w H a L ∧ L.length ≤ sizeLine ∧ ∀ q, H q = none → Q (.ref q) (upd H q (.lst (L.map (·.1))))
theorem cr_lstKy (hc : X.calm = true) : CallR X (.type "list") (rLstKy X.w) := by
  intro pins s σ H vs us Q I r h
  obtain ⟨a, L, rfl, ha, hz, q⟩ := h
  rw [Vals.ref1 r]
  obtain ⟨L', es, ep, x, sy, ⟨o, ho, hx, hd⟩, he, sz⟩ := dcV_raw I ha
  refine PySem.W.kdl_call (L2.kdl_raw sy hx hd) (I.ok.hd hc) ho (by omega) fun h' tk acc c kp e it => ?_
  refine ⟨.ref s.heap.objs.size, _, I.laid (t' := tk) (o := .lst (L.map (·.1))) kp (Nat.le_refl _) ⟨by rw [List.length_map]; exact hz, acc.toList, c, keysV_read x he it, by rw [Array.toArray_toList]; exact e⟩, rfl, q _ (I.hok.fresh (Nat.le_refl _))⟩
end
end Cv

/-! Cs22: dict(..) of a list of pairs, a tuple of pairs, a zip, a dict; len of a dict. -/
namespace Cv
open PySem PySem.Spec PyProof.Rows L2
/-- a zip whose tuple T is still out -/
abbrev ZipH (f : Bool) (h : Heap) (z TI TO T : Addr) (g : Bool) : Prop := h.get? z = some { cls := .type "zip", dict := none, data := .fields #[rawInt T, .bool g, .bool f, .ref TI, .ref TO], slots := #[] }
section
variable {P : Program} {w : World} {A : Around} {E : Value → Shared → Prop} {s : Shared} {f g b1 b2 : Bool} {z TI TO T i1 i2 l1 l2 : Addr} {k : Nat} {xs ys : Array Value} {oT : Obj}
theorem heldF {Q : Bool → Shared → Prop} (hz : ZipH f s.heap z TI TO T g) (hT : s.heap.get? T = some oT)
    (h : ∀ h', ZipH f h' z TI TO T true → Heap.SameBut z s.heap h' → Q false { s with heap := h' }) : wpAny (model P w) A (Builtin.SmallTypes.ownedTupleIsFree (.ref z)) Q E s := by
  unfold Builtin.SmallTypes.ownedTupleIsFree
  refine wpAny_bind (wpAny_field hz rfl (x := rawInt T) rfl ?_)
  show wpAny _ _ (loadIfAlive ((T : Int).toNat) >>= _) _ _ _
  rw [Int.toNat_natCast]
  refine wpAny_bind (PySem.W.kdx_alive hT ?_)
  simp only [Option.isNone_some, Bool.false_eq_true, if_false]
  refine wpAny_bind (wpAny_field hz rfl (x := .bool g) rfl ?_)
  cases g with
  | true =>
    rw [if_neg (show ¬ ((Value.bool true != Value.bool true) = true) from Bool.false_ne_true)]
    exact wpAny_pure (h s.heap hz (Heap.SameBut.refl _ _))
  | false =>
    rw [if_pos (show (Value.bool false != Value.bool true) = true from rfl)]
    exact wpAny_bind (wpAny_setField_rec hz (by simp) fun h₁ hz₁ hs₁ => wpAny_pure (h h₁ hz₁ hs₁))
theorem zh_draw {b : Bool} {I l : Addr} {x : Value} {vs : List Value} {Q : Option Value → Shared → Prop} (ne : l ≠ I) (h : ItOf b s.heap I l k xs) (hx : xs[k]? = some x) (q : ∀ h', ItOf b h' I l (k + 1) xs → Heap.SameBut I s.heap h' → Q (some x) { s with heap := h' }) :
    wpAny (model P w) A (holding vs (if (Value.bool f == Value.bool true) = true then Builtin.SmallTypes.nextOrEnd (.ref I) else (do return some (← Builtin.SmallTypes.nextOf (.ref I)) : Sem (Option Value)))) Q E s := by
  refine wpAny_holding ?_
  cases f with
  | true =>
    rw [if_pos (by decide)]
    exact draw_item ne h hx q
  | false =>
    rw [if_neg (by decide)]
    exact wpAny_bind (next_item ne h hx fun h' a1 a2 => wpAny_pure (q h' a1 a2))
theorem zh_item {x y : Value} {Q : Value → Shared → Prop} (D : ZipApart z TI TO i1 i2 l1 l2) (hz : ZipH f s.heap z TI TO T g) (hT : s.heap.get? T = some oT) (hTI : IsPair s.heap TI (.ref i1) (.ref i2))
    (a1 : ItOf b1 s.heap i1 l1 k xs) (a2 : ItOf b2 s.heap i2 l2 k ys) (hx : xs[k]? = some x) (hy : ys[k]? = some y)
    (hQ : ∀ h', ZipH f h' z TI TO T true → ItOf b1 h' i1 l1 (k + 1) xs → ItOf b2 h' i2 l2 (k + 1) ys → IsPair h' s.heap.objs.size x y → h'.objs.size = s.heap.objs.size + 1 →
      (∀ c o, c ≠ z → c ≠ i1 → c ≠ i2 → s.heap.get? c = some o → h'.get? c = some o) → Q (.ref s.heap.objs.size) { s with heap := h' }) :
    wpAny (model P w) A (Builtin.«zip.__next__» ⟨[.ref z], []⟩) (fun fin s' => ∃ v, fin = .done (.ret v) ∧ Q v s') E s := by
  show wpAny _ _ (field (.ref z) 2 >>= _) _ _ _
  refine wpAny_bind (wpAny_field hz rfl (x := .bool f) rfl ?_)
  show wpAny _ _ (field (.ref z) 3 >>= _) _ _ _
  refine wpAny_bind (wpAny_field hz rfl (x := .ref TI) rfl (wpAny_bind (wpAny_seqItems hTI rfl ?_)))
  show wpAny _ _ (Builtin.SmallTypes.ownedTupleIsFree (.ref z) >>= _) _ _ _
  refine wpAny_bind (heldF hz hT fun h₁ hz₁ hs₁ => ?_)
  simp only [Bool.false_eq_true, if_false]
  have at1 : ∀ c o, c ≠ z → s.heap.get? c = some o → h₁.get? c = some o := fun c o n e => (hs₁.2 c n).trans e
  refine wpAny_bind ?_
  rw [← Array.forIn_toList]
  simp only [List.forIn_cons, List.forIn_nil]
  refine wpAny_bind (wpAny_bind ?_)
  refine zh_draw (f := f) (s := { s with heap := h₁ }) D.l1i1 (a1.keep (at1 _ · D.i1z) (at1 _ · D.l1z)) hx fun h₂ c1 hs₂ => ?_
  have at2 : ∀ c o, c ≠ z → c ≠ i1 → s.heap.get? c = some o → h₂.get? c = some o := fun c o n1 n2 e => (hs₂.2 c n2).trans (at1 c o n1 e)
  refine wpAny_pure ?_
  refine wpAny_bind (wpAny_bind ?_)
  refine zh_draw (f := f) (s := { s with heap := h₂ }) D.l2i2 (a2.keep (at2 _ · D.i2z D.i12.symm) (at2 _ · D.l2z D.l2i1)) hy fun h₃ c2 hs₃ => ?_
  refine wpAny_pure (wpAny_pure ?_)
  show wpAny _ _ (newTuple [x, y] >>= _) _ _ _
  refine wpAny_bind (wpAny_newTuple ?_)
  have hsz : h₃.objs.size = s.heap.objs.size := by rw [hs₃.1, hs₂.1, hs₁.1]
  have hz₃ : ZipH f h₃ z TI TO T true := (hs₃.2 _ D.i2z.symm).trans ((hs₂.2 _ D.i1z.symm).trans hz₁)
  have hk : ∀ c o, c ≠ z → c ≠ i1 → c ≠ i2 → s.heap.get? c = some o → h₃.get? c = some o := fun c o n1 n2 n3 e => (hs₃.2 c n3).trans (at2 c o n1 n2 e)
  have d1 : ItOf b1 h₃ i1 l1 (k + 1) xs := c1.keep (fun o e => (hs₃.2 _ D.i12).trans e) (fun o e => (hs₃.2 _ D.l1i2).trans e)
  refine wpAny_pure ⟨_, rfl, ?_⟩
  show Q (.ref h₃.objs.size) _
  have hp : IsPair (h₃.push { cls := .type "tuple", data := .seq #[x, y] }) h₃.objs.size x y := Heap.get?_push_size _ rfl
  have hz4 : (h₃.push { cls := .type "tuple", data := .seq #[x, y] }).objs.size = h₃.objs.size + 1 := Heap.size_push ..
  rw [hsz] at hp hz4 ⊢
  exact hQ _ (Heap.get?_push_of_some _ hz₃) (d1.keep (fun o e => Heap.get?_push_of_some _ e) fun o e => Heap.get?_push_of_some _ e) (c2.keep (fun o e => Heap.get?_push_of_some _ e) fun o e => Heap.get?_push_of_some _ e) hp hz4 fun c o n1 n2 n3 e => Heap.get?_push_of_some _ (hk c o n1 n2 n3 e)
theorem zh_end {Q : PySem.Fin → Shared → Prop} (hh : A.handled = none) (D : ZipApart z TI TO i1 i2 l1 l2) (hz : ZipH f s.heap z TI TO T g) (hT : s.heap.get? T = some oT) (hTI : IsPair s.heap TI (.ref i1) (.ref i2))
    (a1 : ItOf b1 s.heap i1 l1 k xs) (a2 : ItOf b2 s.heap i2 l2 k ys) (hend : ZEnd f xs.size ys.size k)
    (hE : ∀ h' e, (∀ c o, c ≠ z → c ≠ i1 → c ≠ i2 → s.heap.get? c = some o → h'.get? c = some o) → (∃ o, h'.get? e = some o ∧ o.cls = .type "StopIteration") → E (.ref e) { s with heap := h' }) :
    wpAny (model P w) A (Builtin.«zip.__next__» ⟨[.ref z], []⟩) Q E s := by
  show wpAny _ _ (field (.ref z) 2 >>= _) _ _ _
  refine wpAny_bind (wpAny_field hz rfl (x := .bool f) rfl ?_)
  show wpAny _ _ (field (.ref z) 3 >>= _) _ _ _
  refine wpAny_bind (wpAny_field hz rfl (x := .ref TI) rfl (wpAny_bind (wpAny_seqItems hTI rfl ?_)))
  show wpAny _ _ (Builtin.SmallTypes.ownedTupleIsFree (.ref z) >>= _) _ _ _
  refine wpAny_bind (heldF hz hT fun h₁ hz₁ hs₁ => ?_)
  simp only [Bool.false_eq_true, if_false]
  have at1 : ∀ c o, c ≠ z → s.heap.get? c = some o → h₁.get? c = some o := fun c o n e => (hs₁.2 c n).trans e
  refine wpAny_bind ?_
  rw [← Array.forIn_toList]
  simp only [List.forIn_cons, List.forIn_nil]
  refine wpAny_bind (wpAny_bind (wpAny_holding ?_))
  cases f with
  | true =>
    show wpAny _ _ (Builtin.SmallTypes.nextOrEnd (.ref i1)) _ _ _
    refine draw_end (s := { s with heap := h₁ }) hh (a1.keep (at1 _ · D.i1z) (at1 _ · D.l1z)) (arr_none hend.1) fun g2 b2' => ?_
    have at2 : ∀ c o, c ≠ z → c ≠ i1 → s.heap.get? c = some o → g2.get? c = some o := fun c o n1 n2 e => b2' c o n2 (at1 c o n1 e)
    have dr : ∀ {Q' : Option Value → Shared → Prop} {E' : Value → Shared → Prop}, (∀ h', Heap.ExtBut i2 g2 h' → Q' none { s with heap := h' }) → wpAny (model P w) A (Builtin.SmallTypes.nextOrEnd (.ref i2)) Q' E' { s with heap := g2 } := fun q =>
      draw_end (s := { s with heap := g2 }) hh (a2.keep (at2 _ · D.i2z D.i12.symm) (at2 _ · D.l2z D.l2i1)) (arr_none hend.2) q
    wp_walk using dr
    intro g4 b4
    wp_walk
    simp only [raiseNew]
    refine wpAny_bind (wpAny_handled ?_)
    rw [hh]
    refine wpAny_bind (wpAny_pure (wpAny_throw ?_))
    exact hE _ _ (fun c o n1 n3 n4 x => Heap.get?_push_of_some _ (Heap.get?_push_of_some _ (b4 c o n4 (at2 c o n1 n3 x)))) ⟨_, Heap.get?_push_size _ rfl, rfl⟩
  | false =>
    show wpAny _ _ (Builtin.SmallTypes.nextOf (.ref i1) >>= _) _ _ _
    by_cases hx : xs.size ≤ k
    · refine wpAny_bind (next_end (s := { s with heap := h₁ }) hh (a1.keep (at1 _ · D.i1z) (at1 _ · D.l1z)) (arr_none hx) fun h₂ e hs₂ he => ?_)
      exact hE h₂ e (fun c o n1 n2 _ x => hs₂ _ _ n2 (at1 c o n1 x)) he
    · have hy : ys.size ≤ k := hend.resolve_left hx
      have hx' : xs[k]? = some xs[k] := Array.getElem?_eq_getElem (by omega)
      refine wpAny_bind (next_item (s := { s with heap := h₁ }) D.l1i1 (a1.keep (at1 _ · D.i1z) (at1 _ · D.l1z)) hx' fun h₂ c1 hs₂ => wpAny_pure ?_)
      have at2 : ∀ c o, c ≠ z → c ≠ i1 → s.heap.get? c = some o → h₂.get? c = some o := fun c o n1 n2 e => (hs₂.2 c n2).trans (at1 c o n1 e)
      refine wpAny_pure ?_
      refine wpAny_bind (wpAny_bind (wpAny_holding ?_))
      show wpAny _ _ (Builtin.SmallTypes.nextOf (.ref i2) >>= _) _ _ _
      refine wpAny_bind (next_end (s := { s with heap := h₂ }) hh (a2.keep (at2 _ · D.i2z D.i12.symm) (at2 _ · D.l2z D.l2i1)) (arr_none hy) fun h₃ e hs₃ he => ?_)
      exact hE h₃ e (fun c o n1 n2 n3 x => hs₃ _ _ n3 (at2 c o n1 n2 x)) he
theorem next_zipH {x y : Value} {Q : Option Value → Shared → Prop} (D : ZipApart z TI TO i1 i2 l1 l2) (hz : ZipH f s.heap z TI TO T g) (hT : s.heap.get? T = some oT) (hTI : IsPair s.heap TI (.ref i1) (.ref i2))
    (a1 : ItOf b1 s.heap i1 l1 k xs) (a2 : ItOf b2 s.heap i2 l2 k ys) (hx : xs[k]? = some x) (hy : ys[k]? = some y)
    (hQ : ∀ h', ZipH f h' z TI TO T true → ItOf b1 h' i1 l1 (k + 1) xs → ItOf b2 h' i2 l2 (k + 1) ys → IsPair h' s.heap.objs.size x y → h'.objs.size = s.heap.objs.size + 1 →
      (∀ c o, c ≠ z → c ≠ i1 → c ≠ i2 → s.heap.get? c = some o → h'.get? c = some o) → Q (some (.ref s.heap.objs.size)) { s with heap := h' }) :
    wpAny (model P w) A (pyNext (.ref z)) Q E s := by
  have hTy : s.TypeIs (.ref z) "zip" := ⟨_, hz, rfl⟩
  unfold pyNext
  exact wpAny_bind (wpAny_attempt (wpAny_callSpecial?_slot (name := Str.ofString "__next__") hTy F.slot_zip_next
    (wpAny_call_entry F.slot_zip_next hTy F.entry_zip_next (zh_item D hz hT hTI a1 a2 hx hy fun h' c1 c2 c3 c4 c5 c6 => wpAny_pure (hQ h' c1 c2 c3 c4 c5 c6)) (F.args_zip_next_1 _))))
theorem next_zipHE {Q : Option Value → Shared → Prop} (hh : A.handled = none) (D : ZipApart z TI TO i1 i2 l1 l2) (hz : ZipH f s.heap z TI TO T g) (hT : s.heap.get? T = some oT) (hTI : IsPair s.heap TI (.ref i1) (.ref i2))
    (a1 : ItOf b1 s.heap i1 l1 k xs) (a2 : ItOf b2 s.heap i2 l2 k ys) (hend : ZEnd f xs.size ys.size k)
    (hQ : ∀ h', (∀ c o, c ≠ z → c ≠ i1 → c ≠ i2 → s.heap.get? c = some o → h'.get? c = some o) → Q none { s with heap := h' }) : wpAny (model P w) A (pyNext (.ref z)) Q E s := by
  have hTy : s.TypeIs (.ref z) "zip" := ⟨_, hz, rfl⟩
  unfold pyNext
  refine wpAny_bind (wpAny_attempt (wpAny_callSpecial?_slot (name := Str.ofString "__next__") hTy F.slot_zip_next
    (wpAny_call_entry F.slot_zip_next hTy F.entry_zip_next (zh_end hh D hz hT hTI a1 a2 hend fun h' e hk he => ?_) (F.args_zip_next_1 _))))
  obtain ⟨o, ho, hc⟩ := he
  refine wpAny_bind (wpAny_isInstance (T := "StopIteration") (b := true) ⟨o, ho, hc⟩ isSubtype_stop ?_)
  exact wpAny_pure (hQ _ hk)
theorem ItOf.seq {b : Bool} {h : Heap} {I l : Addr} {xs : Array Value} (x : ItOf b h I l k xs) : ∃ o, h.get? l = some o := by
  cases b with
  | true =>
    obtain ⟨_, ⟨o, e, _⟩⟩ := x
    exact ⟨o, e⟩
  | false =>
    obtain ⟨_, ⟨o, e, _⟩⟩ := x
    exact ⟨o, e⟩
/-- a zip as what dict() takes -/
theorem argZipF (f b1 b2 : Bool) (z TI TO i1 i2 l1 l2 : Addr) (D : ZipApart z TI TO i1 i2 l1 l2) (xs ys : Array Value) (n : Nat) (hx : n ≤ xs.size) (hy : n ≤ ys.size) (hend : ZEnd f xs.size ys.size n) :
    PairArg P w "zip" z [z, TI, TO, i1, i2, l1, l2] [z, TO, i1, i2] n (fun i k v => xs[i]? = some k ∧ ys[i]? = some v)
      (fun h => ZipF f h z TI TO .none ∧ IsPair h TI (.ref i1) (.ref i2) ∧ (∃ a b, IsPair h TO a b) ∧ ItOf b1 h i1 l1 0 xs ∧ ItOf b2 h i2 l2 0 ys) where
  type := fun s ok => ⟨_, ok.1, rfl⟩
  notDict := by decide
  keep := fun h h' ok hk => by
    obtain ⟨hz, hTI, ⟨a, b, hTO⟩, h1, h2⟩ := ok
    exact ⟨hk _ _ hz, hk _ _ hTI, ⟨a, b, hk _ _ hTO⟩, h1.keep (fun o e => hk _ o e) (fun o e => hk _ o e), h2.keep (fun o e => hk _ o e) fun o e => hk _ o e⟩
  there := fun h ok b hb => by
    obtain ⟨hz, hTI, ⟨a, c, hTO⟩, h1, h2⟩ := ok
    obtain ⟨o1, e1, _⟩ := h1.there
    obtain ⟨o2, e2, _⟩ := h2.there
    obtain ⟨o3, e3⟩ := h1.seq
    obtain ⟨o4, e4⟩ := h2.seq
    simp only [List.mem_cons, List.not_mem_nil, or_false] at hb
    rcases hb with rfl | rfl | rfl | rfl | rfl | rfl | rfl
    all_goals first | exact ⟨_, hz⟩ | exact ⟨_, hTI⟩ | exact ⟨_, hTO⟩ | exact ⟨_, e1⟩ | exact ⟨_, e2⟩ | exact ⟨_, e3⟩ | exact ⟨_, e4⟩
  sub := fun b hb => by simp at hb ⊢; rcases hb with rfl | rfl | rfl | rfl <;> simp
  noKeys := fun A s Q E hA ok h => getAttrOr_miss_zip ok.1 rfl rfl rfl zip_no_keys (by decide +kernel) hA h
  iter := fun A s d Q E hA ok hd hdf h => by
    obtain ⟨hz, hTI, ⟨a, b, hTO⟩, h1, h2⟩ := ok
    simp only [List.mem_cons, List.not_mem_nil, or_false, not_or] at hdf
    obtain ⟨dz, dTI, dTO, di1, di2, dl1, dl2⟩ := hdf
    refine iter_zipF hz (h z [z, TO, i1, i2] (fun i h => IsPair h TI (.ref i1) (.ref i2) ∧ ItOf b1 h i1 l1 i xs ∧ ItOf b2 h i2 l2 i ys ∧
      ((ZipF f h z TI TO .none ∧ ∃ a b, IsPair h TO a b) ∨ ∃ T g oT, ZipH f h z TI TO T g ∧ h.get? T = some oT ∧ T ≠ z ∧ T ≠ i1 ∧ T ≠ i2 ∧ T ≠ d)) s.heap s.toks ?_
      ⟨hTI, h1, h2, .inl ⟨hz, a, b, hTO⟩⟩ (fun _ _ e => e) fun b hb => .inl hb)
    exact {
      off := fun hm => by
        simp only [List.mem_cons, List.not_mem_nil, or_false] at hm
        rcases hm with e | e | e | e
        · exact dz e
        · exact dTO e
        · exact di1 e
        · exact di2 e
      frame := fun i h₁ h₂ st hk => by
        obtain ⟨hTI, h1, h2, hz⟩ := st
        refine ⟨hk _ _ (Ne.symm dTI) hTI, h1.keep (fun o e => hk _ o (Ne.symm di1) e) (fun o e => hk _ o (Ne.symm dl1) e), h2.keep (fun o e => hk _ o (Ne.symm di2) e) (fun o e => hk _ o (Ne.symm dl2) e), ?_⟩
        rcases hz with ⟨hz, a, b, hTO⟩ | ⟨T, g, oT, hz, hT, r1, r2, r3, r4⟩
        · exact .inl ⟨hk _ _ (Ne.symm dz) hz, a, b, hk _ _ (Ne.symm dTO) hTO⟩
        · exact .inr ⟨T, g, oT, hk _ _ (Ne.symm dz) hz, hk _ _ r4 hT, r1, r2, r3, r4⟩
      item := fun i s₁ Q₁ E₁ hi st hds hQ => by
        obtain ⟨hTI, h1, h2, hz⟩ := st
        have ex := Array.getElem?_eq_getElem (Nat.lt_of_lt_of_le hi hx)
        have ey := Array.getElem?_eq_getElem (Nat.lt_of_lt_of_le hi hy)
        have lt : ∀ {c o}, s₁.heap.get? c = some o → s₁.heap.objs.size ≠ c := fun e => Nat.ne_of_gt (Heap.lt_size e)
        have n1 : s₁.heap.objs.size ≠ i1 := let ⟨_, e, _⟩ := h1.there; lt e
        have n2 : s₁.heap.objs.size ≠ i2 := let ⟨_, e, _⟩ := h2.there; lt e
        rcases hz with ⟨hz, a, b, hTO⟩ | ⟨T, g, oT, hz, hT, r1, r2, r3, r4⟩
        · refine next_zipF D hz hTI hTO h1 h2 ex ey fun h' a1 a2 a3 a4 a5 a6 hk => ?_
          exact hQ s₁.heap.objs.size _ _ h' s₁.toks ⟨ex, ey⟩ (.inl ⟨_, a5, rfl, _, rfl⟩)
            ⟨hk _ _ D.TIz D.TITO D.TIi1 D.TIi2 hTI, a3, a4, .inr ⟨s₁.heap.objs.size, false, _, a1, a5, lt hz, n1, n2, Nat.ne_of_gt hds⟩⟩
            fun c o hc e => hk c o (fun x => hc (by simp [x])) (fun x => hc (by simp [x])) (fun x => hc (by simp [x])) (fun x => hc (by simp [x])) e
        · refine next_zipH D hz hT hTI h1 h2 ex ey fun h' a1 a3 a4 a5 a6 hk => ?_
          exact hQ s₁.heap.objs.size _ _ h' s₁.toks ⟨ex, ey⟩ (.inl ⟨_, a5, rfl, _, rfl⟩)
            ⟨hk _ _ D.TIz D.TIi1 D.TIi2 hTI, a3, a4, .inr ⟨T, true, oT, a1, hk _ _ r1 r2 r3 hT, r1, r2, r3, r4⟩⟩
            fun c o hc e => hk c o (fun x => hc (by simp [x])) (fun x => hc (by simp [x])) (fun x => hc (by simp [x])) e
      done := fun s₁ Q₁ E₁ st hQ => by
        obtain ⟨hTI, h1, h2, hz⟩ := st
        rcases hz with ⟨hz, a, b, hTO⟩ | ⟨T, g, oT, hz, hT, r1, r2, r3, r4⟩
        · exact next_zipE hA D hz hTI hTO h1 h2 hend fun h' hk => hQ h' s₁.toks fun c o hc e => hk c o (fun x => hc (by simp [x])) (fun x => hc (by simp [x])) (fun x => hc (by simp [x])) (fun x => hc (by simp [x])) e
        · exact next_zipHE hA D hz hT hTI h1 h2 hend fun h' hk => hQ h' s₁.toks fun c o hc e => hk c o (fun x => hc (by simp [x])) (fun x => hc (by simp [x])) (fun x => hc (by simp [x])) e }
end
end Cv

/-! Cs23: dict(..) by names; len of a dict. -/
namespace Cv
open PySem PySem.Spec PyProof.Rows L2
/-- all entries put, one behind another -/
def putAll {α β : Type} (acc ps : List (α × NestedKey × β)) : List (α × NestedKey × β) := ps.foldl (fun acc p => putN acc p.1 p.2.1 p.2.2) acc
theorem ep_putAll {ps : List Ev3} {qs : List En3} (y : Cv.EP ps qs) : ∀ {ac : List Ev3} {bc : List En3}, Cv.EP ac bc → Cv.EP (putAll ac ps) (putAll bc qs) := by
  induction y with
  | nil => exact fun x => x
  | cons a b t ih => exact fun x => ih (x.put a b)
theorem putAll_keys {α β : Type} {Pr : α × NestedKey → Prop} : ∀ {ps ac : List (α × NestedKey × β)}, (∀ p ∈ ac, Pr (p.1, p.2.1)) → (∀ p ∈ ps, Pr (p.1, p.2.1)) → ∀ p ∈ putAll ac ps, Pr (p.1, p.2.1)
  | [], _, h, _ => h
  | q :: ps, ac, h, k => by
    refine putAll_keys (ps := ps) (ac := putN ac q.1 q.2.1 q.2.2) (fun p hp => ?_) fun p hp => k p (List.mem_cons_of_mem _ hp)
    unfold putN at hp
    split at hp
    · obtain ⟨r, hr, rfl⟩ := List.mem_map.mp hp
      split
      · exact h r hr
      · exact h r hr
    · rcases List.mem_append.mp hp with hp | hp
      · exact h p hp
      · rw [List.mem_singleton.mp hp]
        exact k q List.mem_cons_self
theorem putAll_len {α β : Type} : ∀ {ps ac : List (α × NestedKey × β)}, (putAll ac ps).length ≤ ac.length + ps.length
  | [], _ => Nat.le_refl _
  | q :: ps, ac => by
    refine Nat.le_trans (putAll_len (ps := ps) (ac := putN ac q.1 q.2.1 q.2.2)) ?_
    have := putN_len ac q.1 q.2.1 q.2.2
    rw [List.length_cons]
    omega
theorem putAll_M : ∀ {qs ac : List En3}, (∀ p ∈ ac, KyS (p.1, p.2.1)) → (∀ p ∈ qs, KyS (p.1, p.2.1)) → merged (toM ac) (toM qs) = toM (putAll ac qs)
  | [], _, _, _ => rfl
  | q :: qs, ac, h, k => by
    obtain ⟨key, k1, k2⟩ := k q List.mem_cons_self
    have k2 : q.2.1 = nkOf key := k2
    show merged (stored (toM ac) (kOf q.2.1) q.2.2) (toM qs) = toM (putAll (putN ac q.1 q.2.1 q.2.2) qs)
    rw [k2, kOf_nk, put_M q.1 q.2.2 h, ← k2]
    refine putAll_M (fun p hp => ?_) fun p hp => k p (List.mem_cons_of_mem _ hp)
    unfold putN at hp
    split at hp
    · obtain ⟨r, hr, rfl⟩ := List.mem_map.mp hp
      split
      · exact h r hr
      · exact h r hr
    · rcases List.mem_append.mp hp with hp | hp
      · exact h p hp
      · rw [List.mem_singleton.mp hp]
        exact k q List.mem_cons_self
theorem putAll_H : ∀ {qs ac : List En3}, (∀ p ∈ ac, ∃ b, p.1 = .ref b) → (∀ p ∈ qs, ∃ b, p.1 = .ref b) → ofH (storedAllH (toH ac) (toH qs)) = putAll ac qs
  | [], ac, h, _ => toH_ref h
  | q :: qs, ac, h, k => by
    obtain ⟨b, hb⟩ := k q List.mem_cons_self
    have h2 : ∀ p ∈ putN ac q.1 q.2.1 q.2.2, ∃ b, p.1 = .ref b := fun p hp => by
      unfold putN at hp
      split at hp
      · obtain ⟨r, hr, rfl⟩ := List.mem_map.mp hp
        split
        · exact h r hr
        · exact h r hr
      · rcases List.mem_append.mp hp with hp | hp
        · exact h p hp
        · rw [List.mem_singleton.mp hp]
          exact ⟨b, hb⟩
    have e : storedH (toH ac) q.2.1 (adr q.1) q.2.2 = toH (putN ac q.1 q.2.1 q.2.2) := by
      have e1 := put_H q.2.1 b q.2.2 h
      rw [← hb] at e1
      have e2 := congrArg toH e1
      rw [← e2, hb]
      show storedH (toH ac) q.2.1 b q.2.2 = _
      generalize storedH (toH ac) q.2.1 b q.2.2 = l
      unfold toH ofH
      rw [List.map_map]
      show l = l.map fun x => (x.1, adr (.ref x.2.1), x.2.2)
      exact (List.map_id' l).symm
    show ofH (storedAllH (storedH (toH ac) q.2.1 (adr q.1) q.2.2) (toH qs)) = putAll (putN ac q.1 q.2.1 q.2.2) qs
    rw [e]
    exact putAll_H h2 fun p hp => k p (List.mem_cons_of_mem _ hp)
section
variable {X : Cx} {pins : List (Addr × Obj)} {σ : L2.St} {H : Hp} {s : Shared} {a : Addr} {m : Bool} {ps : List Ev3} {qs : List En3}
/-- the same keys, whichever value holds them -/
theorem ep_swap {M2 : List En3} {ac : List Ev3} {bc : List En3} (x : Cv.EP ac bc) (hk : ∀ p ∈ ac, ∃ k : Key, p.1 = kV k ∧ p.2.1 = nkOf k) (bk : ∀ p ∈ bc, KyS (p.1, p.2.1)) (e : toM M2 = toM bc) (ks : ∀ p ∈ M2, KyS (p.1, p.2.1)) : Cv.EP ac M2 := by
  refine x.rekey ?_ ks hk
  have one : ∀ {l : List En3}, (∀ p ∈ l, KyS (p.1, p.2.1)) → l.map (·.2) = (toM l).map fun p => (nkOf p.1, p.2) := fun {l} h => by
    unfold toM
    rw [List.map_map]
    refine List.map_congr_left fun p hp => ?_
    obtain ⟨k, _, k2⟩ := h p hp
    have k2 : p.2.1 = nkOf k := k2
    show p.2 = (nkOf (kOf p.2.1), p.2.2)
    rw [k2, kOf_nk, ← k2]
  rw [one ks, one bk, e]
/-- dict(..), from whatever gives pairs -/
theorem dict_arg {T : String} {fp wr : List Addr} {n : Nat} {Rel : Nat → Value → Value → Prop} {OK : Heap → Prop} {Q : VK} (hc : X.calm = true) (hu : X.A.units + 64 < cLine) (I : Inv X pins σ H s) (Pa : PairArg X.prog X.w T a fp wr n Rel OK) (ok : OK s.heap)
    (x : Cv.EP ps qs) (hk : ∀ p ∈ ps, KvAt X.K H m (p.1, p.2.1)) (hl : ps.length = n) (hz : n ≤ sizeLine) (hr : ∀ i key v, Rel i key v → ∃ k, qs[i]? = some (key, k, v)) (hw : ∀ b ∈ wr, FpOk X pins H b)
    (q : NewD X.w H Q (putAll [] ps)) : wpAny (model X.prog X.w) X.A (call (.type "dict") [.ref a]) (L2.EP X pins σ Q) X.xe s := by
  have hsys : (s.heap.objs.size == sysModules) = false := beq_eq_false_iff_ne.mpr (Nat.ne_of_gt I.big)
  have ky : ∀ {s' : Shared}, Inv X pins σ H s' → ∀ p ∈ qs, KyAt s'.heap (p.1, p.2.1) ∧ KyK m (p.1, p.2.1) := fun I' p hp => by
    obtain ⟨y, y1, y2, y3⟩ := x.left p hp
    have z := kv_ky I' (hk y y1) y2
    rw [y3] at z
    exact z
  have ql : qs.length = n := by rw [← x.len, hl]
  have fin : ∀ {h' : Heap} {tk : Tok} {M2 : List En3}, DicO X.w h' s.heap.objs.size M2 → Cv.EP (putAll [] ps) M2 → (∀ b o, b ∉ wr → s.heap.get? b = some o → h'.get? b = some o) → L2.EP X pins σ Q (.ref s.heap.objs.size) { s with heap := h', toks := tk } := fun {h' tk M2} R y k => by
    exact new_d (I.turnedNew (t' := tk) (ch := wr) k hw (Nat.le_refl _) (dcV_ok y R)) (I.hok.fresh (Nat.le_refl _)) q
  cases m with
  | true =>
    have qr : ∀ p ∈ qs, ∃ b, p.1 = .ref b := fun p hp => by
      have z := (ky I p hp).2
      cases z with
      | @tup _ b z => exact ⟨b, z⟩
    refine call_dict_pairsH (knd := nestedKind X.prog X.w) (ps := toH qs) Pa (I.ok.hd hc) (by show X.A.in1.in1.units + 8 < cLine; simp only [Around.in1_units]; omega) ok ⟨by unfold toH; rw [List.length_map, ql], fun i key v h => ?_⟩ ?_ hz fun h' tk hd k => ?_
    · obtain ⟨kk, e⟩ := hr i key v h
      obtain ⟨b, hb⟩ := qr _ (List.mem_of_getElem? e)
      have hb : key = .ref b := hb
      refine ⟨kk, b, ?_, hb⟩
      unfold toH
      rw [List.getElem?_map, e, hb]
      rfl
    · intro h' keep y hy
      obtain ⟨p, hp, rfl⟩ := List.mem_map.mp (show y ∈ qs.map _ from hy)
      have I' : Inv X pins σ H { s with heap := h' } := I.turnedL (t' := s.toks) (ch := wr) (fun b o hb e => keep b o (Nat.ne_of_lt (Heap.lt_size e)) hb e) hw
      have z := ky I' p hp
      obtain ⟨b, hb⟩ := qr p hp
      have z1 := z.1
      rw [hb] at z1
      show NestedIs h' p.2.1 (.ref (adr p.1)) ∧ _
      rw [hb]
      exact ⟨z1.iz, z1.dp⟩
    · refine fin (dicH_of hsys hd) ?_ k
      rw [show storedAllH ([] : List (NestedKey × Addr × Value)) (toH qs) = storedAllH (toH []) (toH qs) from rfl, putAll_H (ac := []) (fun _ h => nomatch h) qr]
      exact ep_putAll x .nil
  | false =>
    have qk : ∀ p ∈ qs, KyS (p.1, p.2.1) := fun p hp => kyS_of (ky I p hp).2
    have pk : ∀ p ∈ ps, ∃ k : Key, p.1 = kV k ∧ p.2.1 = nkOf k := fun p hp => (hk p hp).sort
    refine call_dict_pairs (knd := mixKind X.prog X.w) (kvs := toM qs) Pa (I.ok.hd hc) ok ⟨by unfold toM; rw [List.length_map, ql], fun i key v h => ?_⟩ hz fun h' tk hd k => ?_
    · obtain ⟨kk, e⟩ := hr i key v h
      obtain ⟨k, k1, k2⟩ := qk _ (List.mem_of_getElem? e)
      have k2 : kk = nkOf k := k2
      refine ⟨k, ?_, k1⟩
      unfold toM
      rw [List.getElem?_map, e]
      show some (kOf kk, v) = _
      rw [k2, kOf_nk]
    · obtain ⟨L2, R, e, _, ks⟩ := dicM_of hsys hd
      rw [show ([] : List (Key × Value)) = toM [] from rfl, putAll_M (ac := []) (fun _ h => nomatch h) qk] at e
      exact fin R (ep_swap (ep_putAll x .nil) (putAll_keys (Pr := fun p => ∃ k : Key, p.1 = kV k ∧ p.2 = nkOf k) (fun _ h => nomatch h) pk) (putAll_keys (Pr := fun p => KyS p) (fun _ h => nomatch h) qk) e ks) k
/-- a tuple known to have nothing more -/
def TuP (K : PySem.W.Frag) (H : Hp) (a : Addr) (xs : List V) : Prop :=
  (∃ o, o.dict = none ∧ H a = some (.frz o (.tup xs))) ∨ ∃ o its n, K.lookup a = some o ∧ o.cls = .type "tuple" ∧ o.dict = none ∧ o.data = .seq its n ∧ its.size ≤ sizeLine ∧ Vals xs its.toList
theorem TuP.sq {K : PySem.W.Frag} {a : Addr} {xs : List V} (h : TuP K H a xs) : SqT K H a xs := by
  rcases h with ⟨o, _, h⟩ | ⟨o, its, n, h1, h2, _, h3, h4, h5⟩
  · exact .inl (.inr ⟨o, h⟩)
  · exact .inr ⟨o, its, n, h1, h2, h3, h4, h5⟩
theorem TuP.mono {K : PySem.W.Frag} {F F' : Hp} (h : ∀ a o, F a = some o → F' a = some o) {a : Addr} {xs : List V} (r : TuP K F a xs) : TuP K F' a xs := by
  rcases r with ⟨o, h1, h2⟩ | r
  · exact .inl ⟨o, h1, h _ _ h2⟩
  · exact .inr r
theorem TuP.plain (I : Inv X pins σ H s) {xs : List V} (h : TuP X.K H a xs) : ∃ its, Vals xs its ∧ PlainSeq "tuple" s.heap a its.toArray ∧ xs.length ≤ sizeLine := by
  rcases h with ⟨o, h1, h⟩ | ⟨o, its, n, h1, h2, hd, h3, h4, h5⟩
  · obtain ⟨e, z, its, r, ⟨o', e', c, n, d⟩⟩ := I.hok a _ h
    rw [e] at e'
    cases e'
    exact ⟨its, r, ⟨o, n, e, c, h1, d⟩, z⟩
  · exact ⟨its.toList, h5, ⟨o, n, I.kIn a _ h1, h2, hd, by rw [Array.toArray_toList]; exact h3⟩, by rw [h5.length, Array.length_toList]; exact h4⟩
theorem refsV {bs : List Addr} : ∀ {us : List Value}, Vals (bs.map V.ref) us → us = bs.map Value.ref := by
  induction bs with
  | nil =>
    intro us r
    cases r
    rfl
  | cons b bs ih =>
    intro us r
    cases r with
    | cons h t =>
      cases h
      rw [List.map_cons, ← ih t]
/-- the pairs, as the heap has them -/
theorem pairs_ev (I : Inv X pins σ H s) : ∀ {bs : List Addr} {ps : List Ev3}, bs.length = ps.length → (∀ (j : Nat) b p, bs[j]? = some b → ps[j]? = some p → SqT X.K H b [p.1, p.2.2]) →
    ∃ qs : List En3, Cv.EP ps qs ∧ ∀ (j : Nat) b q, bs[j]? = some b → qs[j]? = some q → PairAt s.heap b q.1 q.2.2
  | [], [], _, _ => ⟨[], .nil, fun j b q h => by simp at h⟩
  | [], _ :: _, h, _ => nomatch h
  | _ :: _, [], h, _ => nomatch h
  | b :: bs, (y, k, v) :: ps, hl, h => by
    obtain ⟨qs, x, g⟩ := pairs_ev I (bs := bs) (ps := ps) (by simpa using hl) fun j b' p h1 h2 => h (j + 1) b' p (by simpa using h1) (by simpa using h2)
    obtain ⟨its, r, t, _⟩ := I.tuple (h 0 b (y, k, v) rfl rfl)
    cases r with
    | cons r1 r2 =>
      cases r2 with
      | cons r3 r4 =>
        cases r4
        refine ⟨(_, k, _) :: qs, .cons r1 r3 x, fun j b' q h1 h2 => ?_⟩
        cases j with
        | zero =>
          simp at h1 h2
          subst h1 h2
          exact .inl t
        | succ j => exact g j b' q (by simpa using h1) (by simpa using h2)
/-- dict(a list of pairs), dict(a tuple of pairs) -/
def rDctSq (K : PySem.W.Frag) (w : World) : List V → Hp → VK → Prop := fun vs H Q => ∃ (a : Addr) (m : Bool) (bs : List Addr) (ps : List Ev3), vs = [.ref a] ∧ (SqL K H a (bs.map V.ref) ∨ TuP K H a (bs.map V.ref)) ∧ bs.length = ps.length ∧
  (∀ (j : Nat) b p, bs[j]? = some b → ps[j]? = some p → SqT K H b [p.1, p.2.2]) ∧ (∀ p ∈ ps, KvAt K H m (p.1, p.2.1)) ∧ NewD w H Q (putAll [] ps)
theorem cr_dctSq (hc : X.calm = true) (hu : X.A.units + 64 < cLine) : CallR X (.type "dict") (rDctSq X.K X.w) := by
  intro pins s σ H vs us Q I r h
  obtain ⟨a, m, bs, ps, rfl, hs, hl, hp, hk, q⟩ := h
  rw [Vals.ref1 r]
  obtain ⟨qs, x, g⟩ := pairs_ev I hl hp
  have ql := x.len
  have key : ∀ {its : List Value}, its = bs.map Value.ref → PairItems s.heap its.toArray (fun j => bs.getD j 0) (qs.map fun q => (q.1, q.2.2)) := fun {its} e => by
    subst e
    refine ⟨by simp; omega, fun j k v hj => ?_⟩
    rw [List.getElem?_map] at hj
    obtain ⟨q, q1, q2⟩ := Option.map_eq_some_iff.mp hj
    have lt : j < bs.length := by
      have := (List.getElem?_eq_some_iff.mp q1).1
      omega
    have hb : bs[j]? = some bs[j] := List.getElem?_eq_getElem lt
    have z := g j _ q hb q1
    cases q2
    have e2 : bs.getD j 0 = bs[j] := by rw [List.getD_eq_getElem?_getD, hb]; rfl
    show _ ∧ PairAt s.heap (bs.getD j 0) q.1 q.2.2
    rw [e2]
    exact ⟨by simp [hb], z⟩
  have rel : ∀ (i : Nat) (key v : Value), PairRel (qs.map fun q => (q.1, q.2.2)) i key v → ∃ k, qs[i]? = some (key, k, v) := fun i key v h => by
    have h : (qs.map fun q => (q.1, q.2.2))[i]? = some (key, v) := h
    rw [List.getElem?_map] at h
    obtain ⟨q, q1, q2⟩ := Option.map_eq_some_iff.mp h
    cases q2
    exact ⟨q.2.1, q1⟩
  have len : ps.length = (qs.map fun q => (q.1, q.2.2)).length := by rw [List.length_map, ql]
  rcases hs with hs | hs
  · obtain ⟨its, rv, pl, hz⟩ := I.list hs
    rw [List.length_map] at hz
    have pk := key (refsV rv)
    exact dict_arg (m := m) hc hu I (PairArg.list a its.toArray (fun j => bs.getD j 0) (qs.map fun q => (q.1, q.2.2))) ⟨by obtain ⟨o, n, h1, h2, h3, h4⟩ := pl; exact ⟨o, n, h1, h2, h3, h4⟩, pk⟩ x hk len (by rw [List.length_map]; omega) rel (fun _ h => nomatch h) q
  · obtain ⟨its, rv, pl, hz⟩ := hs.plain I
    rw [List.length_map] at hz
    have pk := key (refsV rv)
    exact dict_arg (m := m) hc hu I (PairArg.tuple a its.toArray (fun j => bs.getD j 0) (qs.map fun q => (q.1, q.2.2))) ⟨pl, pk⟩ x hk len (by rw [List.length_map]; omega) rel (fun _ h => nomatch h) q
/-- dict(a dict of texts) -/
def rDctDc (K : PySem.W.Frag) (w : World) : List V → Hp → VK → Prop := fun vs H Q => ∃ (a : Addr) (L : List Ev3), vs = [.ref a] ∧ DcAt w H a L ∧ KeysV K H false L ∧ L.length ≤ sizeLine ∧ NewD w H Q L
theorem cr_dctDc : CallR X (.type "dict") (rDctDc X.K X.w) := by
  intro pins s σ H vs us Q I r h
  obtain ⟨a, L, rfl, ha, hk, hz, q⟩ := h
  rw [Vals.ref1 r]
  obtain ⟨L', x, R⟩ := dcV_get I ha
  have al := ep_keys I x hk
  have al2 : ∀ p ∈ L', KyK false (p.1, p.2.1) := fun p hp => (al p hp).2
  have dd := dicM (P := X.prog) R al2
  have hsys : (s.heap.objs.size == sysModules) = false := beq_eq_false_iff_ne.mpr (Nat.ne_of_gt I.big)
  refine kt_call_dict (knd := mixKind X.prog X.w) R.sys dd (by unfold toM; rw [List.length_map, ← x.len]; exact hz) fun h' hd sb => ?_
  obtain ⟨L2, R2, e, _, ks⟩ := dicM_of hsys hd
  have y := ep_swap x (fun p hp => (hk p hp).sort) (fun p hp => kyS_of (al2 p hp)) e ks
  exact new_d (I.laid (t' := s.toks) (fun b o e => (sb.2 b (Nat.ne_of_lt (Heap.lt_size e))).trans (Heap.get?_push_of_some _ e)) (Nat.le_refl _) (dcV_ok y R2)) (I.hok.fresh (Nat.le_refl _)) q
/-- dict(zip(a, b)) -/
def rDctZp (K : PySem.W.Frag) (w : World) (f : Bool) : List V → Hp → VK → Prop := fun vs H Q => ∃ (a b : Addr) (b1 b2 m : Bool) (xs ys : List V) (ps : List Ev3), vs = [.ref a, .ref b] ∧ SqB K b1 H a xs ∧ SqB K b2 H b ys ∧ ZEnd f xs.length ys.length ps.length ∧ ps.length ≤ xs.length ∧ ps.length ≤ ys.length ∧ xs.length ≤ sizeLine ∧
  (∀ (j : Nat) p, ps[j]? = some p → xs[j]? = some p.1 ∧ ys[j]? = some p.2.2) ∧ (∀ p ∈ ps, KvAt K H m (p.1, p.2.1)) ∧ NewD w H Q (putAll [] ps)
theorem dctZp {f : Bool} {vs : List V} {us : List Value} {Q : VK} (hc : X.calm = true) (hu : X.A.units + 64 < cLine) (I : Inv X pins σ H s) (r : Vals vs us) (h : rDctZp X.K X.w f vs H Q) :
    wpAny (model X.prog X.w) X.A (call (.type "zip") us (zKw f)) (fun u s1 => wpAny (model X.prog X.w) X.A (call (.type "dict") [u]) (L2.EP X pins σ Q) X.xe s1) X.xe s := by
  obtain ⟨a, b, b1, b2, m, xs, ys, ps, rfl, hx, hy, he, hl1, hl2, hz, hp, hk, q⟩ := h
  cases r with
  | cons r rr =>
    cases rr with
    | cons r' rr =>
      cases rr
      cases r
      cases r'
      obtain ⟨its, rv, p1⟩ := seqB I hx
      obtain ⟨its2, rv2, p2⟩ := seqB I hy
      have m1 := rv.length
      have m2 := rv2.length
      refine call_zipF (f := f) p1 p2 fun h' hzp hTI hTO h1 h2 hsz hkp => ?_
      have I2 : Inv X pins σ H { s with heap := h' } := I.kept (t' := s.toks) hkp
      have ev : ∀ l : List Ev3, ∀ d : Nat, (∀ (j : Nat) p, l[j]? = some p → xs[j + d]? = some p.1 ∧ ys[j + d]? = some p.2.2) → ∃ qs : List En3, Cv.EP l qs ∧ ∀ (j : Nat) q, qs[j]? = some q → its[j + d]? = some q.1 ∧ its2[j + d]? = some q.2.2 := by
        intro l
        induction l with
        | nil => exact fun d _ => ⟨[], .nil, fun j q h => by simp at h⟩
        | cons p l ih =>
          intro d hp
          obtain ⟨qs, x, g⟩ := ih (d + 1) fun j p' h => by
            have := hp (j + 1) p' (by simpa using h)
            rw [show j + 1 + d = j + (d + 1) by omega] at this
            exact this
          obtain ⟨e1, e2⟩ := hp 0 p rfl
          rw [Nat.zero_add] at e1 e2
          obtain ⟨u, u1, u2⟩ := rv.get e1
          obtain ⟨w, w1, w2⟩ := rv2.get e2
          obtain ⟨y, k, v⟩ := p
          refine ⟨(u, k, w) :: qs, .cons u2 w2 x, fun j q h => ?_⟩
          cases j with
          | zero =>
            simp at h
            subst h
            rw [Nat.zero_add]
            exact ⟨u1, w1⟩
          | succ j =>
            have := g j q (by simpa using h)
            rw [show j + 1 + d = j + (d + 1) by omega]
            exact this
      obtain ⟨qs, x, g⟩ := ev ps 0 hp
      have ql := x.len
      refine dict_arg (m := m) hc hu I2 (argZipF f b1 b2 _ _ _ _ _ _ _ (PySem.W.ktu_apart s.heap.objs.size a b p1.lt p2.lt) its.toArray its2.toArray ps.length (by rw [List.size_toArray]; omega) (by rw [List.size_toArray]; omega) (by rw [List.size_toArray, List.size_toArray, ← m1, ← m2]; exact he))
        ⟨hzp, hTI, ⟨_, _, hTO⟩, h1, h2⟩ x hk rfl (by omega) (fun i key v h => ?_) (fun c hcm => ?_) q
      · obtain ⟨e1, e2⟩ := h
        by_cases hi : i < qs.length
        · have := g i _ (List.getElem?_eq_getElem hi)
          rw [Nat.add_zero] at this
          rw [List.getElem?_toArray] at e1 e2
          rw [e1] at this
          rw [e2] at this
          refine ⟨qs[i].2.1, ?_⟩
          rw [List.getElem?_eq_getElem hi]
          have h3 := Option.some.inj this.1
          have h4 := Option.some.inj this.2
          rw [h3, h4]
        · exfalso
          have l1 := (Array.getElem?_eq_some_iff.mp e1).1
          have l2 := (Array.getElem?_eq_some_iff.mp e2).1
          rw [List.size_toArray] at l1 l2
          cases f with
          | true =>
            have := he.1
            omega
          | false =>
            rcases he with he | he <;> omega
      · have e' : c = s.heap.objs.size + 4 ∨ c = s.heap.objs.size + 3 ∨ c = s.heap.objs.size ∨ c = s.heap.objs.size + 1 := by simpa using hcm
        have hle : s.heap.objs.size ≤ c := by
          rcases e' with z | z | z | z
          · rw [z]; exact Nat.le_add_right _ _
          · rw [z]; exact Nat.le_add_right _ _
          · rw [z]; exact Nat.le_refl _
          · rw [z]; exact Nat.le_add_right _ _
        exact I.fpOk hle (I.hok.fresh hle)
end
end Cv

/-! Cv1: data, a small core language, what it means. -/
namespace Cv
open PySem

/-- data: what a value comes to -/
inductive D where
  | non | bl (b : Bool) | int (i : Int) | str (s : Str) | tup (xs : List D) | lst (xs : List D)
  | dct (ks vs : List D) | itv (ks vs : List D) | set (xs : List D) | obj (n : Nat) | fn (n : Nat)

mutual
def D.py : D → PyData
  | .non => .none
  | .bl b => .bool b
  | .int i => .int i
  | .str s => .str s
  | .tup xs => .tuple (D.pys xs)
  | .lst xs => .list (D.pys xs)
  | .dct _ _ => .none
  | .itv _ _ => .none
  | .set _ => .none
  | .obj _ => .none
  | .fn _ => .none
def D.pys : List D → List PyData
  | [] => []
  | x :: xs => D.py x :: D.pys xs
end
mutual
/-- nothing in it but numbers, truths, None, texts, tuples, lists -/
def D.pl : D → Bool
  | .non => true
  | .bl _ => true
  | .int _ => true
  | .str _ => true
  | .tup xs => D.pls xs
  | .lst xs => D.pls xs
  | .dct _ _ => false
  | .itv _ _ => false
  | .set _ => false
  | .obj _ => false
  | .fn _ => false
def D.pls : List D → Bool
  | [] => true
  | x :: xs => D.pl x && D.pls xs
end

mutual
/-- the key a datum is -/
def nkD : D → Option NestedKey
  | .non => some .none
  | .bl _ => none
  | .int i => some (.num i)
  | .str s => some (.text s)
  | .tup xs => (nksD xs).map .tup
  | .lst _ => none
  | .dct _ _ => none
  | .itv _ _ => none
  | .set _ => none
  | .obj _ => none
  | .fn _ => none
def nksD : List D → Option (List NestedKey)
  | [] => some []
  | x :: xs => match nkD x, nksD xs with
    | some k, some ks => some (k :: ks)
    | _, _ => none
end
/-- each key once: where it stands last -/
def dedD : List D → List D
  | [] => []
  | x :: xs => if xs.any fun y => decide (nkD y = nkD x) then dedD xs else x :: dedD xs
/-- a member of a set of tuples; of texts and numbers -/
def keyM : Bool → D → Bool
  | true, .tup xs => (nkD (.tup xs)).isSome && decide ((D.tup xs).py.depth ≤ 8)
  | false, .int _ => true
  | false, .str _ => true
  | _, _ => false
def setM (m : Bool) (xs : List D) : Bool := xs.all (keyM m) && decide ((dedD xs).length ≤ capK m)
def setD (xs : List D) : Option (List D) := if setM true xs || setM false xs then some (dedD xs) else none
abbrev leD : D → D → Bool := PySem.W.dataLe false D.py
def alkD (xs : List D) : Bool := xs.all fun x => xs.all fun y => PySem.W.alike x.py y.py
def nnD : D → Bool
  | .non => false
  | _ => true
def srtOk (xs : List D) : Bool := D.pls xs && alkD xs && xs.all nnD && decide (PyData.depthAll (D.pys xs) ≤ 100) && decide (xs.length ≤ sizeLine)
def srtD (xs : List D) : Option (List D) := if srtOk xs then some (xs.mergeSort leD) else none
/-- objects that change: with fields, with cells; the store -/
inductive Ob where
  | fl (fs : List (Str × D))
  | cel (ds : List D)
abbrev Sto := List Ob
def M (α : Type) := Sto → Option (α × Sto)
def M.ret {α : Type} (a : α) : M α := fun S => some (a, S)
def M.bnd {α β : Type} (m : M α) (f : α → M β) : M β := fun S => match m S with
  | none => none
  | some (a, S1) => f a S1
def M.no {α : Type} : M α := fun _ => none
def M.opt {α : Type} : Option α → M α
  | none => M.no
  | some a => M.ret a
instance : Monad M where
  pure := M.ret
  bind := M.bnd

/-- containers that one name alone holds -/
inductive Ow where
  | ol (xs : List D)
  | od (ks vs : List D)
inductive Sl where
  | no | val (d : D) | own (o : Ow)
abbrev En := List Sl

/-! ### operations on data -/
inductive Bo where
  | add | sub | mul | fdiv | mod | pow
inductive Co where
  | lt | le | gt | ge | eq | ne | isin | notin | isn | notn
/-- of a size that arithmetic may meet -/
def sm (i : Int) : Bool := decide (i.natAbs.log2 < 8000)
def repI (n : Int) (xs : List D) : List D := (List.replicate n.toNat xs).flatten
def binD : Bo → D → D → Option D
  | .add, .int a, .int b => some (.int (a + b))
  | .add, .bl a, .int b => some (.int ((if a then 1 else 0) + b))
  | .add, .str a, .str b => if a.length + b.length ≤ sizeLine then some (.str (a ++ b)) else none
  | .add, .tup a, .tup b => if a.length + b.length ≤ sizeLine then some (.tup (a ++ b)) else none
  | .add, .lst a, .lst b => if a.length + b.length ≤ sizeLine then some (.lst (a ++ b)) else none
  | .sub, .int a, .int b => some (.int (a - b))
  | .mul, .int a, .int b => if sm a && sm b then some (.int (a * b)) else none
  | .mul, .tup a, .int n => if decide (0 ≤ n) && decide (n ≤ 1000) && decide (a.length ≤ 1000) then some (.tup (repI n a)) else none
  | .mul, .lst a, .int n => if decide (0 ≤ n) && decide (n ≤ 1000) && decide (a.length ≤ 1000) then some (.lst (repI n a)) else none
  | .fdiv, .int a, .int b => if decide (b ≠ 0) && sm b then some (.int (a.fdiv b)) else none
  | .mod, .int a, .int b => if b ≠ 0 then some (.int (a.fmod b)) else none
  | .pow, .int a, .int b => if decide (0 ≤ b) && decide (b ≤ 1000) && decide (a.natAbs < 2 ^ 64) then some (.int (a ^ b.toNat)) else none
  | _, _, _ => none
/-! dicts -/
def hasD (ks : List D) (x : D) : Bool := ks.any fun k => decide (nkD k = nkD x)
def lkD : List D → List D → D → Option D
  | k :: ks, v :: vs, x => if nkD k = nkD x then some v else lkD ks vs x
  | _, _, _ => none
/-- keys of one sort -/
def dkOk (ks : List D) : Bool := ks.all (keyM true) || ks.all (keyM false)
def putKs (ks : List D) (x : D) : List D := if hasD ks x then ks else ks ++ [x]
def putVs (ks vs : List D) (x v : D) : List D := if hasD ks x then List.zipWith (fun k w => if nkD k = nkD x then v else w) ks vs else vs ++ [v]
def putsD : List D → List D → List D → List D → List D × List D
  | ks, vs, x :: xs, y :: ys => putsD (putKs ks x) (putVs ks vs x y) xs ys
  | ks, vs, _, _ => (ks, vs)
def itemsD (ks vs : List D) : List D := List.zipWith (fun k v => .tup [k, v]) ks vs
def pairsD : List D → Option (List D × List D)
  | [] => some ([], [])
  | .tup [k, v] :: r => (pairsD r).map fun p => (k :: p.1, v :: p.2)
  | _ :: _ => none
def mkD (ks vs : List D) : Option D := if dkOk ks then some (.dct (putsD [] [] ks vs).1 (putsD [] [] ks vs).2) else none
def shp (d : D) : Bool := d.pl && SeqAt.shaped d.py
def memD (x : D) (xs : List D) : Bool := (D.pys xs).any fun z => PyData.eqv z x.py
def cmpD : Co → D → D → Option Bool
  | .lt, .int a, .int b => some (decide (a < b))
  | .le, .int a, .int b => some (decide (a ≤ b))
  | .gt, .int a, .int b => some (decide (b < a))
  | .ge, .int a, .int b => some (decide (b ≤ a))
  | .lt, .str a, .str b => some (PySem.W.dataLt (.str a) (.str b))
  | .le, .str a, .str b => some (!decide (b.cps.toList < a.cps.toList))
  | .ge, .str a, .str b => some (!decide (a.cps.toList < b.cps.toList))
  | .lt, .tup a, .tup b => if D.pls a && D.pls b && PySem.W.alikeAll (D.pys a) (D.pys b) && decide (PyData.depthAll (D.pys a) ≤ 64) then some (PySem.W.dataLt (.tuple (D.pys a)) (.tuple (D.pys b))) else none
  | .eq, .str a, .str b => some (a == b)
  | .ne, .str a, .str b => some (!(a == b))
  | .eq, x, y => if shp x && shp y then some (PyData.eqv x.py y.py) else none
  | .ne, x, y => if shp x && shp y then some (!PyData.eqv x.py y.py) else none
  | .isin, .str a, .str b => some (!(Builtin.Str.occurrences b a 0 b.length 1).isEmpty)
  | .notin, .str a, .str b => some (!(!(Builtin.Str.occurrences b a 0 b.length 1).isEmpty))
  | .isin, x, .lst ys => if shp x && shp (.lst ys) then some (memD x ys) else none
  | .notin, x, .lst ys => if shp x && shp (.lst ys) then some (!memD x ys) else none
  | .isin, x, .tup ys => if shp x && shp (.tup ys) then some (memD x ys) else none
  | .notin, x, .tup ys => if shp x && shp (.tup ys) then some (!memD x ys) else none
  | .isin, x, .dct ks _ => if dkOk (x :: ks) then some (hasD ks x) else none
  | .notin, x, .dct ks _ => if dkOk (x :: ks) then some (!hasD ks x) else none
  | .isn, x, .non => (match x with | .non => some true | .itv _ _ => none | .set _ => none | .fn _ => none | _ => some false)
  | .notn, x, .non => (match x with | .non => some false | .itv _ _ => none | .set _ => none | .fn _ => none | _ => some true)
  | _, _, _ => none
/-- truth -/
def truD : D → Option Bool
  | .non => some false
  | .bl b => some b
  | .int i => some (i != 0)
  | .str s => if s.length ≤ sizeLine then some ((s.length : Int) != 0) else none
  | .tup xs => some (!xs.isEmpty)
  | .lst xs => some (!xs.isEmpty)
  | _ => none
def atD {α : Type} (xs : List α) (i : Int) : Option α := L2.atI xs i
def idxD : D → D → Option D
  | .lst xs, .int i => atD xs i
  | .tup xs, .int i => atD xs i
  | .str z, .int i => if z.length ≤ sizeLine then (atD z.cps.toList i).map fun c => .str ⟨#[c]⟩ else none
  | .dct ks vs, x => if dkOk (x :: ks) then lkD ks vs x else none
  | _, _ => none
def cutD {α : Type} (xs : List α) (lo hi : Option Int) : List α := (xs.drop (HT.sIx xs.length 0 lo)).take (HT.sIx xs.length xs.length hi - HT.sIx xs.length 0 lo)
def sliD : D → Option Int → Option Int → Option D
  | .lst xs, lo, hi => some (.lst (cutD xs lo hi))
  | .tup xs, lo, hi => some (.tup (cutD xs lo hi))
  | .str z, lo, hi => if z.length ≤ sizeLine then some (.str (L2.cutS z lo hi)) else none
  | _, _, _ => none
def revD : D → Option D
  | .lst xs => some (.lst xs.reverse)
  | .tup xs => some (.tup xs.reverse)
  | _ => none
/-- the name of a thing's type -/
def tyD : D → Option String
  | .non => some "NoneType"
  | .bl _ => some "bool"
  | .int _ => some "int"
  | .str _ => some "str"
  | .tup _ => some "tuple"
  | .lst _ => some "list"
  | _ => none
def isiD (d : D) (T : String) : Option Bool := (tyD d).bind fun t => L2.kitB t T
def intsD : List D → Option (List Int)
  | [] => some []
  | .int i :: r => (intsD r).map (i :: ·)
  | _ :: _ => none
def blsD : List D → Option (List Bool)
  | [] => some []
  | .bl b :: r => (blsD r).map (b :: ·)
  | _ :: _ => none
def reprOk (d : D) : Bool := d.pl && d.py.showable && decide (d.py.depth ≤ 100) && decide (d.py.shown.length ≤ sizeLine)
/-- built-ins of one argument -/
inductive B1 where
  | len | abs | sum | repr | list | tuple | all | any | int | str | set | sorted | dict
def b1D : B1 → D → Option D
  | .len, .str s => if s.length ≤ sizeLine then some (.int s.length) else none
  | .len, .tup xs => some (.int xs.length)
  | .len, .lst xs => some (.int xs.length)
  | .len, .set xs => some (.int xs.length)
  | .set, .lst xs => (setD xs).map .set
  | .sorted, .lst xs => (srtD xs).map .lst
  | .sorted, .tup xs => (srtD xs).map .lst
  | .sorted, .set xs => (srtD xs).map .lst
  | .sorted, .dct ks _ => (srtD ks).map .lst
  | .sorted, .itv ks vs => (srtD (itemsD ks vs)).map .lst
  | .list, .dct ks _ => some (.lst ks)
  | .list, .itv ks vs => some (.lst (itemsD ks vs))
  | .dict, .lst xs => (pairsD xs).bind fun p => mkD p.1 p.2
  | .dict, .tup xs => (pairsD xs).bind fun p => mkD p.1 p.2
  | .dict, .dct ks vs => if ks.all (keyM false) then some (.dct ks vs) else none
  | .abs, .int i => some (.int (if i < 0 then -i else i))
  | .sum, .lst xs => (intsD xs).map fun ns => .int ns.sum
  | .repr, d => if reprOk d then some (.str d.py.shown) else none
  | .list, .lst xs => some (.lst xs)
  | .list, .tup xs => some (.lst xs)
  | .tuple, .lst xs => some (.tup xs)
  | .tuple, .tup xs => some (.tup xs)
  | .all, .lst xs => (blsD xs).map fun bs => .bl (bs.all id)
  | .any, .lst xs => (blsD xs).map fun bs => .bl (bs.any id)
  | .int, .int i => some (.int i)
  | .int, .bl b => some (.int (if b then 1 else 0))
  | .str, .bl b => some (.str (if b then "True" else "False"))
  | .str, .int i => if i.natAbs.log2 < 1920 then some (.str (toString i)) else none
  | _, _ => none
/-- methods without arguments -/
inductive M0 where
  | upper | items
def m0D : M0 → D → Option D
  | .upper, .str s => if s.length ≤ 5592405 then some (.str (Txt.upper s)) else none
  | .items, .dct ks vs => some (.itv ks vs)
  | _, _ => none

inductive Tg where
  | nm (i : Nat)
  | tp2 (a b : Tg)
  | tp3 (a b c : Tg)
  | tp4 (a b c d : Tg)
/-- what is known ahead: the module's constants, the defs' meanings -/
structure Cf where
  gl : List D
  fn : List (List D → M D)

def getV (en : En) (i : Nat) : Option D := match en[i]? with
  | some (.val d) => some d
  | _ => none
def setV (en : En) (i : Nat) (d : D) : En := en.set i (.val d)
def wipeE (en : En) : List Nat → En
  | [] => en
  | v :: vs => (wipeE en vs).set v .no
def asg : Tg → D → En → Option En
  | .nm i, d, en => if i < en.length then some (setV en i d) else none
  | .tp2 a b, .tup [x, y], en => (asg a x en).bind (asg b y)
  | .tp3 a b c, .tup [x, y, z], en => ((asg a x en).bind (asg b y)).bind (asg c z)
  | .tp4 a b c e, .tup [x, y, z, w], en => (((asg a x en).bind (asg b y)).bind (asg c z)).bind (asg e w)
  | _, _, _ => none
def FUEL : Nat := 2 ^ 20000
def look (k : Str) : List (Str × D) → Option D
  | [] => none
  | (s, d) :: r => if s = k then some d else look k r
def putF (k : Str) (d : D) : List (Str × D) → List (Str × D)
  | [] => [(k, d)]
  | (s, x) :: r => if s = k then (s, d) :: r else (s, x) :: putF k d r
def getO (n : Nat) (k : Str) : M D := fun S => match S[n]? with
  | some (.fl fs) => (look k fs).map fun d => (d, S)
  | _ => none
def getI (n : Nat) (i : Nat) : M D := fun S => match S[n]? with
  | some (.cel ds) => ds[i]?.map fun d => (d, S)
  | _ => none
/-- a field that is there gets another value -/
def setO (n : Nat) (k : Str) (d : D) : M Unit := fun S => match S[n]? with
  | some (.fl fs) => if (look k fs).isSome then some ((), S.set n (.fl (putF k d fs))) else none
  | _ => none
def setI (n : Nat) (i : Nat) (d : D) : M Unit := fun S => match S[n]? with
  | some (.cel ds) => if i < ds.length then some ((), S.set n (.cel (ds.set i d))) else none
  | _ => none
def newO (o : Ob) : M D := fun S => some (.obj S.length, S ++ [o])
def mapMM {α β : Type} (f : α → M β) : List α → M (List β)
  | [] => M.ret []
  | x :: xs => M.bnd (f x) fun y => M.bnd (mapMM f xs) fun ys => M.ret (y :: ys)
/-- the items of a list comprehension: f of each that the test lets by -/
def lcM (t : D → M Bool) (f : D → M D) : List D → M (List D)
  | [] => M.ret []
  | x :: xs => M.bnd (t x) fun b => if b then M.bnd (f x) fun y => M.bnd (lcM t f xs) fun ys => M.ret (y :: ys) else lcM t f xs
/-- .. of one of two clauses -/
def catM (t : D → M Bool) (f : D → M (List D)) : List D → M (List D)
  | [] => M.ret []
  | x :: xs => M.bnd (t x) fun b => if b then M.bnd (f x) fun ys => M.bnd (catM t f xs) fun zs => M.ret (ys ++ zs) else catM t f xs
def rangeD (lo hi : Int) : List D := (List.range (hi - lo).toNat).map fun (k : Nat) => D.int (lo + (k : Int))
def zipD : List D → List D → List D
  | x :: xs, y :: ys => .tup [x, y] :: zipD xs ys
  | _, _ => []
def zipS : D → D → Option (List D)
  | .lst xs, .lst ys => some (zipD xs ys)
  | .tup xs, .tup ys => some (zipD xs ys)
  | _, _ => none
def seqD : D → Option (List D)
  | .lst xs => some xs
  | .tup xs => some xs
  | .str s => if s.length ≤ sizeLine then some (s.cps.toList.map fun c => .str ⟨#[c]⟩) else none
  | _ => none
def isB (d : D) : M Bool := match d with
  | .bl b => M.ret b
  | _ => M.no
def isI (d : D) : M Int := match d with
  | .int i => M.ret i
  | _ => M.no
def isO (d : D) : M Nat := match d with
  | .obj n => M.ret n
  | _ => M.no
def isL (d : D) : M (List D) := match d with
  | .lst n => M.ret n
  | _ => M.no
def rgOk (i : Int) : Bool := decide (-(2 ^ 20) ≤ i) && decide (i < 2 ^ 20)
def zipKs : List Str → List D → List (Str × D)
  | k :: ks, d :: ds => (k, d) :: zipKs ks ds
  | _, _ => []

/-- how a statement ends -/
inductive Fl where
  | nx | ret (d : D) | brk | ct
def forM (a : D → En → M En) (b : En → M (Fl × En)) : List D → En → M (Fl × En)
  | [], en => M.ret (.nx, en)
  | x :: xs, en => M.bnd (a x en) fun en1 => M.bnd (b en1) fun r => match r.1 with
    | .nx => forM a b xs r.2
    | .ct => forM a b xs r.2
    | .brk => M.ret (.nx, r.2)
    | .ret d => M.ret (.ret d, r.2)
def whlM (c : En → M Bool) (b : En → M (Fl × En)) : Nat → En → M (Fl × En)
  | 0, _ => M.no
  | n + 1, en => M.bnd (c en) fun t => if t then M.bnd (b en) fun r => match r.1 with
    | .nx => whlM c b n r.2
    | .ct => whlM c b n r.2
    | .brk => M.ret (.nx, r.2)
    | .ret d => M.ret (.ret d, r.2)
    else M.ret (.nx, en)
/-- a slot for a thing that no one else holds, or for a value -/
def slO : Bool → D → Option Sl
  | false, d => some (.val d)
  | true, .lst xs => some (.own (.ol xs))
  | true, .dct ks vs => some (.own (.od ks vs))
  | true, _ => none
def frzE (en : En) (i : Nat) : Option En := match en[i]? with
  | some (.own (.ol xs)) => some (en.set i (.val (.lst xs)))
  | some (.own (.od ks vs)) => some (en.set i (.val (.dct ks vs)))
  | some (.val _) => some en
  | _ => none
def appE (en : En) (i : Nat) (d : D) : Option En := match en[i]? with
  | some (.own (.ol xs)) => if xs.length < sizeLine then some (en.set i (.own (.ol (xs ++ [d])))) else none
  | _ => none
def putE (en : En) (i : Nat) (x d : D) : Option En := match en[i]? with
  | some (.own (.od ks vs)) => if dkOk (x :: ks) && decide (ks.length < sizeLine) then some (en.set i (.own (.od (putKs ks x) (putVs ks vs x d)))) else none
  | _ => none
/-- what a name's own container holds, read -/
def rdE (en : En) (i : Nat) : Option D := match en[i]? with
  | some (.own (.ol xs)) => some (.lst xs)
  | some (.own (.od ks vs)) => some (.dct ks vs)
  | _ => none
def extE (en : En) (i : Nat) (ds : List D) : Option En := match en[i]? with
  | some (.own (.ol xs)) => if xs.length + ds.length ≤ sizeLine then some (en.set i (.own (.ol (xs ++ ds)))) else none
  | _ => none
end Cv

/-! Cv2: how data lies in the heap; worlds, what may come behind one. -/
namespace Cv
open PySem PySem.Spec PyProof.Rows L2
/-- what stands from the start, the program, the world -/
structure Kx where
  fr : PySem.W.Frag
  pr : Program
  wo : World
instance : Coe Kx PySem.W.Frag := ⟨Kx.fr⟩
abbrev _root_.L2.Cx.kx (X : L2.Cx) : Kx := ⟨X.K, X.prog, X.w⟩

/-- a plain list: laid by the call, or the script -/
def LsAt (K : Kx) (F : Hp) (a : Addr) (xs : List V) : Prop :=
  F a = some (.lst xs) ∨ (∃ (its : List Value) (n : Nat), F a = some (.frz { cls := .type "list", data := .seq its.toArray n } (.lst xs))) ∨
    ∃ (its : List Value) (n : Nat), K.fr.lookup a = some { cls := .type "list", data := .seq its.toArray n } ∧ Vals xs its ∧ its.length ≤ sizeLine
section
variable (K : Kx)
mutual
inductive Rep (F : Hp) (io : List Addr) : V → D → Prop
  | non : Rep F io .non .non
  | bl (b : Bool) : Rep F io (.bl b) (.bl b)
  | int (i : Int) : Rep F io (.int i) (.int i)
  | str (s : Str) : Rep F io (.str s) (.str s)
  | tup {a : Addr} {vs : List V} {ds : List D} : TuP K F a vs → vs.length ≤ sizeLine → Reps F io vs ds → Rep F io (.ref a) (.tup ds)
  | lst {a : Addr} {vs : List V} {ds : List D} : LsAt K F a vs → vs.length ≤ sizeLine → Reps F io vs ds → Rep F io (.ref a) (.lst ds)
  | obj {a : Addr} {n : Nat} : io[n]? = some a → Rep F io (.ref a) (.obj n)
  | set {a : Addr} {m : Bool} {L : List Kv} {es ds : List D} : F a = some (SetV K.wo m a L) → Reps F io (L.map (·.1)) es → es.map nkD = L.map (fun p => some p.2) → es.Perm ds → Rep F io (.ref a) (.set ds)
  | dct {a : Addr} {o : Obj} {L : List Ev3} {ks vs : List D} : F a = some (.frz o (DcV K.wo a L)) → L.length ≤ sizeLine → Reps F io (L.map (·.1)) ks → Reps F io (L.map (·.2.2)) vs → ks.map nkD = L.map (fun p => some p.2.1) → Rep F io (.ref a) (.dct ks vs)
  | itv {v a : Addr} {o : Obj} {L : List Ev3} {ks vs : List D} : F v = some (L2.DX.itemsO v a) → F a = some (.frz o (DcV K.wo a L)) → L.length ≤ sizeLine → Reps F io (L.map (·.1)) ks → Reps F io (L.map (·.2.2)) vs → ks.map nkD = L.map (fun p => some p.2.1) → Rep F io (.ref v) (.itv ks vs)
inductive Reps (F : Hp) (io : List Addr) : List V → List D → Prop
  | nil : Reps F io [] []
  | cons {v : V} {vs : List V} {d : D} {ds : List D} : Rep F io v d → Reps F io vs ds → Reps F io (v :: vs) (d :: ds)
end
end

/-- a world: what is frozen, the objects' places, what they hold, all -/
structure Wd where
  F : Hp
  io : List Addr
  S : Sto
  H : Hp

section
variable {K : Kx}
inductive Flds (K : Kx) (F : Hp) (io : List Addr) : List (Str × D) → List (Key × V) → Prop
  | nil : Flds K F io [] []
  | cons {k : Str} {d : D} {v : V} {fs : List (Str × D)} {kvs : List (Key × V)} : Rep K F io v d → Flds K F io fs kvs → Flds K F io ((k, d) :: fs) ((Sum.inr k, v) :: kvs)

def FldsN (K : Kx) (F : Hp) (io : List Addr) (fs : List (Str × D)) (kvs : List (Key × V)) : Prop := (fs.map (·.1)).Nodup ∧ Flds K F io fs kvs
/-- what lies where a changing object stands -/
def ObAt (K : Kx) (F : Hp) (io : List Addr) (ho : HO) : Ob → Prop
  | .fl fs => ∃ kvs, ho = .dK kvs ∧ kvs.length ≤ 1000 ∧ FldsN K F io fs kvs
  | .cel ds => ∃ vs, ho = .lst vs ∧ vs.length ≤ 1000 ∧ Reps K F io vs ds
structure Wd.Ok (K : Kx) (W : Wd) : Prop where
  ex : ∀ a o, W.F a = some o → W.H a = some o
  ob : ∀ (n : Nat) u, W.S[n]? = some u → ∃ a ho, W.io[n]? = some a ∧ W.H a = some ho ∧ W.F a = none ∧ ObAt K W.F W.io ho u
  le : W.S.length = W.io.length
  nd : W.io.Nodup

/-- what may come behind a world: what is frozen stays, what is no object's stays -/
structure Le (W W' : Wd) : Prop where
  ff : ∀ a o, W.F a = some o → W'.F a = some o
  hh : ∀ a o, W.H a = some o → a ∉ W.io → W'.H a = some o
  nf : ∀ a o, W.H a = some o → W.F a = none → W'.F a = none
  al : ∀ a, W'.H a = none → W.H a = none
  io : ∃ more, W'.io = W.io ++ more ∧ ∀ a ∈ more, W.H a = none

theorem Le.refl (W : Wd) : Le W W := ⟨fun _ _ h => h, fun _ _ h _ => h, fun _ _ _ h => h, fun _ h => h, [], by simp, fun a h => by cases h⟩
theorem Le.trans {W W1 W2 : Wd} (a : Le W W1) (b : Le W1 W2) : Le W W2 := by
  obtain ⟨m1, e1, n1⟩ := a.io
  obtain ⟨m2, e2, n2⟩ := b.io
  have alive : ∀ c o, W.H c = some o → ∃ o', W1.H c = some o' := fun c o h => by
    cases q : W1.H c with
    | none => rw [a.al c q] at h; cases h
    | some o' => exact ⟨o', rfl⟩
  refine ⟨fun c o h => b.ff c o (a.ff c o h), fun c o h n => b.hh c o (a.hh c o h n) ?_, fun c o h n => ?_, fun c h => a.al c (b.al c h), m1 ++ m2, by rw [e2, e1, List.append_assoc], fun c hc => ?_⟩
  · rw [e1]
    intro hm
    rcases List.mem_append.mp hm with z | z
    · exact n z
    · rw [n1 c z] at h; cases h
  · obtain ⟨o', h'⟩ := alive c o h
    exact b.nf c o' h' (a.nf c o h n)
  · rcases List.mem_append.mp hc with z | z
    · exact n1 c z
    · exact a.al c (n2 c z)

theorem rd_mono {F F' : Hp} (h : ∀ a o, F a = some o → F' a = some o) {a : Addr} {u : HO} (r : Rd F a u) : Rd F' a u := by
  rcases r with r | ⟨o, r⟩
  · exact .inl (h _ _ r)
  · exact .inr ⟨o, h _ _ r⟩
theorem sqT_mono {F F' : Hp} (h : ∀ a o, F a = some o → F' a = some o) {a : Addr} {xs : List V} (r : SqT K F a xs) : SqT K F' a xs := by
  rcases r with r | r
  · exact .inl (rd_mono h r)
  · exact .inr r
theorem sqL_mono {F F' : Hp} (h : ∀ a o, F a = some o → F' a = some o) {a : Addr} {xs : List V} (r : SqL K F a xs) : SqL K F' a xs := by
  rcases r with r | r
  · exact .inl (rd_mono h r)
  · exact .inr r
theorem lsAt_mono {F F' : Hp} (h : ∀ a o, F a = some o → F' a = some o) {a : Addr} {xs : List V} (r : LsAt K F a xs) : LsAt K F' a xs := by
  rcases r with r | ⟨its, n, r⟩ | r
  · exact .inl (h _ _ r)
  · exact .inr (.inl ⟨its, n, h _ _ r⟩)
  · exact .inr (.inr r)
theorem LsAt.sq {F : Hp} {a : Addr} {xs : List V} (r : LsAt K F a xs) : SqL K F a xs := by
  rcases r with r | ⟨its, n, r⟩ | ⟨its, n, h1, h2, h3⟩
  · exact .inl (.inl r)
  · exact .inl (.inr ⟨_, r⟩)
  · exact .inr ⟨_, its.toArray, n, h1, rfl, rfl, rfl, by rw [List.size_toArray]; exact h3, h2⟩
section
variable {F F' : Hp} {io io' : List Addr}
mutual
theorem Rep.mono (hF : ∀ a o, F a = some o → F' a = some o) (hi : ∀ (n : Nat) a, io[n]? = some a → io'[n]? = some a) : ∀ {v : V} {d : D}, Rep K F io v d → Rep K F' io' v d
  | _, _, .non => .non
  | _, _, .bl b => .bl b
  | _, _, .int i => .int i
  | _, _, .str s => .str s
  | _, _, .tup h l r => .tup (h.mono hF) l (Reps.mono hF hi r)
  | _, _, .lst h l r => .lst (lsAt_mono hF h) l (Reps.mono hF hi r)
  | _, _, .obj h => .obj (hi _ _ h)
  | _, _, .set h r e p => .set (hF _ _ h) (Reps.mono hF hi r) e p
  | _, _, .dct h l r q e => .dct (hF _ _ h) l (Reps.mono hF hi r) (Reps.mono hF hi q) e
  | _, _, .itv h h2 l r q e => .itv (hF _ _ h) (hF _ _ h2) l (Reps.mono hF hi r) (Reps.mono hF hi q) e
theorem Reps.mono (hF : ∀ a o, F a = some o → F' a = some o) (hi : ∀ (n : Nat) a, io[n]? = some a → io'[n]? = some a) : ∀ {vs : List V} {ds : List D}, Reps K F io vs ds → Reps K F' io' vs ds
  | _, _, .nil => .nil
  | _, _, .cons h r => .cons (Rep.mono hF hi h) (Reps.mono hF hi r)
end
end
abbrev Wd.Rp (K : Kx) (W : Wd) (v : V) (d : D) : Prop := Rep K W.F W.io v d
abbrev Wd.Rps (K : Kx) (W : Wd) (v : List V) (d : List D) : Prop := Reps K W.F W.io v d
theorem Le.ix {W W' : Wd} (l : Le W W') (n : Nat) (a : Addr) (h : W.io[n]? = some a) : W'.io[n]? = some a := by
  obtain ⟨m, e, _⟩ := l.io
  rw [e, List.getElem?_append_left (List.getElem?_eq_some_iff.mp h).1]
  exact h
theorem Le.rp {W W' : Wd} (l : Le W W') {v : V} {d : D} (r : W.Rp K v d) : W'.Rp K v d := Rep.mono l.ff l.ix r
theorem Le.rps {W W' : Wd} (l : Le W W') {v : List V} {d : List D} (r : W.Rps K v d) : W'.Rps K v d := Reps.mono l.ff l.ix r
theorem Flds.mono {F F' : Hp} {io io' : List Addr} (hF : ∀ a o, F a = some o → F' a = some o) (hi : ∀ (n : Nat) a, io[n]? = some a → io'[n]? = some a) : ∀ {fs kvs}, Flds K F io fs kvs → Flds K F' io' fs kvs
  | _, _, .nil => .nil
  | _, _, .cons h r => .cons (Rep.mono hF hi h) (Flds.mono hF hi r)
theorem FldsN.mono {F F' : Hp} {io io' : List Addr} (hF : ∀ a o, F a = some o → F' a = some o) (hi : ∀ (n : Nat) a, io[n]? = some a → io'[n]? = some a) {fs kvs} (h : FldsN K F io fs kvs) : FldsN K F' io' fs kvs := ⟨h.1, h.2.mono hF hi⟩
theorem ObAt.mono {F F' : Hp} {io io' : List Addr} (hF : ∀ a o, F a = some o → F' a = some o) (hi : ∀ (n : Nat) a, io[n]? = some a → io'[n]? = some a) {ho : HO} {u : Ob} (h : ObAt K F io ho u) : ObAt K F' io' ho u := by
  cases u with
  | fl fs =>
    obtain ⟨kvs, a, b, c⟩ := h
    exact ⟨kvs, a, b, c.mono hF hi⟩
  | cel ds =>
    obtain ⟨vs, a, b, c⟩ := h
    exact ⟨vs, a, b, Reps.mono hF hi c⟩
theorem Reps.len {F : Hp} {io : List Addr} : ∀ {vs : List V} {ds : List D}, Reps K F io vs ds → vs.length = ds.length
  | _, _, .nil => rfl
  | _, _, .cons _ r => by rw [List.length_cons, List.length_cons, Reps.len r]
theorem Reps.app {F : Hp} {io : List Addr} : ∀ {vs ws : List V} {ds es : List D}, Reps K F io vs ds → Reps K F io ws es → Reps K F io (vs ++ ws) (ds ++ es)
  | _, _, _, _, .nil, s => s
  | _, _, _, _, .cons h r, s => .cons h (Reps.app r s)
theorem Reps.get {F : Hp} {io : List Addr} : ∀ {vs : List V} {ds : List D} {i : Nat} {d : D}, Reps K F io vs ds → ds[i]? = some d → ∃ v, vs[i]? = some v ∧ Rep K F io v d
  | _, _, _, _, .nil, e => by simp at e
  | _, _, 0, d, .cons h _, e => by simp at e; subst e; exact ⟨_, rfl, h⟩
  | _, _, i + 1, d, .cons _ r, e => by
    obtain ⟨v, h1, h2⟩ := Reps.get (i := i) r (by simpa using e)
    exact ⟨v, by simpa using h1, h2⟩
theorem Reps.getV {F : Hp} {io : List Addr} : ∀ {vs : List V} {ds : List D} {i : Nat} {v : V}, Reps K F io vs ds → vs[i]? = some v → ∃ d, ds[i]? = some d ∧ Rep K F io v d
  | _, _, _, _, .nil, e => by simp at e
  | _, _, 0, d, .cons h _, e => by simp at e; subst e; exact ⟨_, rfl, h⟩
  | _, _, i + 1, d, .cons _ r, e => by
    obtain ⟨v, h1, h2⟩ := Reps.getV (i := i) r (by simpa using e)
    exact ⟨v, by simpa using h1, h2⟩
theorem Reps.take {F : Hp} {io : List Addr} : ∀ {vs : List V} {ds : List D} (n : Nat), Reps K F io vs ds → Reps K F io (vs.take n) (ds.take n)
  | _, _, 0, _ => .nil
  | _, _, _ + 1, .nil => .nil
  | _, _, n + 1, .cons h r => .cons h (Reps.take n r)
theorem Reps.drop {F : Hp} {io : List Addr} : ∀ {vs : List V} {ds : List D} (n : Nat), Reps K F io vs ds → Reps K F io (vs.drop n) (ds.drop n)
  | _, _, 0, r => r
  | _, _, _ + 1, .nil => .nil
  | _, _, n + 1, .cons h r => Reps.drop n r
theorem Reps.rev {F : Hp} {io : List Addr} : ∀ {vs : List V} {ds : List D}, Reps K F io vs ds → Reps K F io vs.reverse ds.reverse
  | _, _, .nil => .nil
  | _, _, .cons h r => by
    rw [List.reverse_cons, List.reverse_cons]
    exact Reps.app (Reps.rev r) (.cons h .nil)

/-- a new frozen object -/
def Wd.fr (W : Wd) (p : Addr) (o : HO) : Wd := { W with F := upd W.F p o, H := upd W.H p o }
theorem Wd.Ok.fnone {W : Wd} (ok : W.Ok K) {p : Addr} (h : W.H p = none) : W.F p = none := by
  cases q : W.F p with
  | none => rfl
  | some o => rw [ok.ex p o q] at h; cases h
theorem le_fr {W : Wd} (ok : W.Ok K) {p : Addr} {o : HO} (h : W.H p = none) : Le W (W.fr p o) := by
  have hf := ok.fnone h
  refine ⟨fun a u e => ?_, fun a u e _ => ?_, fun a u e n => ?_, fun a e => ?_, [], by simp [Wd.fr], fun a z => by cases z⟩
  · show upd W.F p o a = some u
    rw [upd_ne (ne_of_none e hf)]; exact e
  · show upd W.H p o a = some u
    rw [upd_ne (ne_of_none e h)]; exact e
  · show upd W.F p o a = none
    rw [upd_ne (ne_of_none e h)]; exact n
  · have e' : upd W.H p o a = none := e
    by_cases z : a = p
    · rw [z]; exact h
    · rw [upd_ne z] at e'; exact e'
theorem ok_fr {W : Wd} (ok : W.Ok K) {p : Addr} {o : HO} (h : W.H p = none) : (W.fr p o).Ok K := by
  have l : Le W (W.fr p o) := le_fr ok h
  refine ⟨fun a u e => ?_, fun n fs e => ?_, ok.le, ok.nd⟩
  · have e' : upd W.F p o a = some u := e
    show upd W.H p o a = some u
    by_cases z : a = p
    · subst z; rw [upd_same] at e' ⊢; exact e'
    · rw [upd_ne z] at e' ⊢; exact ok.ex a u e'
  · obtain ⟨a, ho, h1, h2, h3, h4⟩ := ok.ob n fs e
    have ne : a ≠ p := ne_of_none h2 h
    refine ⟨a, ho, h1, ?_, ?_, h4.mono l.ff l.ix⟩
    · show upd W.H p o a = _
      rw [upd_ne ne]; exact h2
    · show upd W.F p o a = none
      rw [upd_ne ne]; exact h3
theorem fr_at {W : Wd} {p : Addr} {o : HO} : (W.fr p o).F p = some o := upd_same

/-- what lies where a name's own container stands -/
def OwAt (K : Kx) (F : Hp) (io : List Addr) (a : Addr) (ho : HO) : Ow → Prop
  | .ol xs => ∃ vs, ho = .lst vs ∧ Reps K F io vs xs ∧ vs.length ≤ sizeLine
  | .od ks vs => ∃ L : List Ev3, ho = DcV K.wo a L ∧ L.length ≤ sizeLine ∧ Reps K F io (L.map (·.1)) ks ∧ Reps K F io (L.map (·.2.2)) vs ∧ ks.map nkD = L.map fun p => some p.2.1
theorem OwAt.mono {K : Kx} {F F' : Hp} {io io' : List Addr} (hF : ∀ a o, F a = some o → F' a = some o) (hi : ∀ (n : Nat) a, io[n]? = some a → io'[n]? = some a) {a : Addr} {ho : HO} {o : Ow} (h : OwAt K F io a ho o) : OwAt K F' io' a ho o := by
  cases o with
  | ol xs =>
    obtain ⟨vs, a, b, c⟩ := h
    exact ⟨vs, a, Reps.mono hF hi b, c⟩
  | od ks vs =>
    obtain ⟨L, a, b, c, d, e⟩ := h
    exact ⟨L, a, b, Reps.mono hF hi c, Reps.mono hF hi d, e⟩
/-- a frame's names -/
structure EnOk (K : Kx) (W0 W : Wd) (en : En) (σ : L2.St) : Prop where
  len : en.length = σ.length
  val : ∀ (i : Nat) d, en[i]? = some (.val d) → ∃ v, σ[i]? = some (some v) ∧ W.Rp K v d
  own : ∀ (i : Nat) o, en[i]? = some (.own o) → ∃ a ho, σ[i]? = some (some (.ref a)) ∧ W.H a = some ho ∧ W.F a = none ∧ a ∉ W.io ∧ W0.H a = none ∧ OwAt K W.F W.io a ho o
  sep : ∀ (i j : Nat) x y, en[i]? = some (.own x) → en[j]? = some (.own y) → σ[i]? = σ[j]? → i = j
theorem EnOk.le {W0 W W' : Wd} {en : En} {σ : L2.St} (e : EnOk K W0 W en σ) (l : Le W W') : EnOk K W0 W' en σ := by
  refine ⟨e.len, fun i d h => ?_, fun i xs h => ?_, e.sep⟩
  · obtain ⟨v, h1, h2⟩ := e.val i d h
    exact ⟨v, h1, l.rp h2⟩
  · obtain ⟨a, vs, h1, h2, h3, h4, h5, h6⟩ := e.own i xs h
    obtain ⟨m, em, hm⟩ := l.io
    refine ⟨a, vs, h1, l.hh a _ h2 h4, l.nf a _ h2 h3, ?_, h5, h6.mono l.ff l.ix⟩
    rw [em]
    intro hx
    rcases List.mem_append.mp hx with z | z
    · exact h4 z
    · rw [hm a z] at h2; cases h2
theorem get_set_eq {α : Type} {l : List α} {i : Nat} {x : α} (h : i < l.length) : (l.set i x)[i]? = some x := by
  rw [List.getElem?_set_self h]
/-- a name gets a value -/
theorem EnOk.set {W0 W : Wd} {en : En} {σ : L2.St} (e : EnOk K W0 W en σ) {i : Nat} {d : D} {v : V} (hi : i < en.length) (r : W.Rp K v d) : EnOk K W0 W (setV en i d) (σ.set i (some v)) := by
  have hs : i < σ.length := by rw [← e.len]; exact hi
  unfold setV
  refine ⟨by rw [List.length_set, List.length_set]; exact e.len, fun j d' h => ?_, fun j xs h => ?_, fun j k x y h1 h2 h3 => ?_⟩
  · by_cases z : i = j
    · subst z
      rw [get_set_eq hi] at h; cases h
      exact ⟨v, get_set_eq hs, r⟩
    · rw [List.getElem?_set_ne z] at h
      rw [List.getElem?_set_ne z]
      exact e.val j d' h
  · by_cases z : i = j
    · subst z; rw [get_set_eq hi] at h; cases h
    · rw [List.getElem?_set_ne z] at h
      rw [List.getElem?_set_ne z]
      exact e.own j xs h
  · have z1 : i ≠ j := fun z => by subst z; rw [get_set_eq hi] at h1; cases h1
    have z2 : i ≠ k := fun z => by subst z; rw [get_set_eq hi] at h2; cases h2
    rw [List.getElem?_set_ne z1] at h1
    rw [List.getElem?_set_ne z2] at h2
    rw [List.getElem?_set_ne z1, List.getElem?_set_ne z2] at h3
    exact e.sep j k x y h1 h2 h3
/-- a name is forgotten -/
theorem EnOk.wipe {W0 W : Wd} {en : En} {σ : L2.St} (e : EnOk K W0 W en σ) : ∀ own : List Nat, EnOk K W0 W (wipeE en own) (wipe σ own)
  | [] => e
  | i :: r => by
    have e := EnOk.wipe e r
    unfold wipeE L2.wipe
    generalize wipeE en r = en at e ⊢
    generalize L2.wipe σ r = σ at e ⊢
    refine ⟨by rw [List.length_set, List.length_set]; exact e.len, fun j d' h => ?_, fun j xs h => ?_, fun j k x y h1 h2 h3 => ?_⟩
    · by_cases z : i = j
      · subst z
        by_cases hi : i < en.length
        · rw [get_set_eq hi] at h; cases h
        · rw [List.set_eq_of_length_le (Nat.not_lt.mp hi)] at h
          rw [List.getElem?_eq_none (Nat.not_lt.mp hi)] at h; cases h
      · rw [List.getElem?_set_ne z] at h
        rw [List.getElem?_set_ne z]
        exact e.val j d' h
    · by_cases z : i = j
      · subst z
        by_cases hi : i < en.length
        · rw [get_set_eq hi] at h; cases h
        · rw [List.set_eq_of_length_le (Nat.not_lt.mp hi)] at h
          rw [List.getElem?_eq_none (Nat.not_lt.mp hi)] at h; cases h
      · rw [List.getElem?_set_ne z] at h
        rw [List.getElem?_set_ne z]
        exact e.own j xs h
    · have off : ∀ (j : Nat) x, (en.set i Sl.no)[j]? = some (.own x) → i ≠ j ∧ en[j]? = some (.own x) := fun j x h => by
        by_cases z : i = j
        · subst z
          by_cases hi : i < en.length
          · rw [get_set_eq hi] at h; cases h
          · rw [List.set_eq_of_length_le (Nat.not_lt.mp hi)] at h
            rw [List.getElem?_eq_none (Nat.not_lt.mp hi)] at h; cases h
        · rw [List.getElem?_set_ne z] at h
          exact ⟨z, h⟩
      obtain ⟨z1, g1⟩ := off j x h1
      obtain ⟨z2, g2⟩ := off k y h2
      rw [List.getElem?_set_ne z1, List.getElem?_set_ne z2] at h3
      exact e.sep j k x y g1 g2 h3
theorem bnd_inv {α β : Type} {m : M α} {f : α → M β} {S S' : Sto} {b : β} (h : M.bnd m f S = some (b, S')) : ∃ a S1, m S = some (a, S1) ∧ f a S1 = some (b, S') := by
  unfold M.bnd at h
  cases e : m S with
  | none => rw [e] at h; cases h
  | some p =>
    obtain ⟨a, S1⟩ := p
    rw [e] at h
    exact ⟨a, S1, rfl, h⟩
theorem ret_inv {α : Type} {a b : α} {S S' : Sto} (h : M.ret a S = some (b, S')) : b = a ∧ S' = S := by
  unfold M.ret at h
  simp only [Option.some.injEq, Prod.mk.injEq] at h
  exact ⟨h.1.symm, h.2.symm⟩
theorem opt_inv {α : Type} {o : Option α} {b : α} {S S' : Sto} (h : M.opt o S = some (b, S')) : o = some b ∧ S' = S := by
  cases o with
  | none => exact nomatch (show none = some (b, S') from h)
  | some a =>
    obtain ⟨h1, h2⟩ := ret_inv (show M.ret a S = some (b, S') from h)
    exact ⟨by rw [h1], h2⟩
theorem no_inv {α : Type} {b : α} {S S' : Sto} (h : M.no S = some (b, S')) : False := nomatch (show none = some (b, S') from h)
end

/-- a list that may be read: it stays, or it is a name's own -/
def LsR (K : Kx) (W : Wd) (a : Addr) (vs : List V) : Prop := LsAt K W.F a vs ∨ (W.H a = some (.lst vs) ∧ a ∉ W.io)
/-- a dict that may be read -/
def DcR (K : Kx) (W : Wd) (a : Addr) (L : List Ev3) : Prop := (∃ o, W.F a = some (.frz o (DcV K.wo a L))) ∨ (W.H a = some (DcV K.wo a L) ∧ a ∉ W.io)
/-- what a value is to one who only reads it -/
inductive Rd (K : Kx) (W : Wd) : V → D → Prop
  | non : Rd K W .non .non
  | bl (b : Bool) : Rd K W (.bl b) (.bl b)
  | int (i : Int) : Rd K W (.int i) (.int i)
  | str (s : Str) : Rd K W (.str s) (.str s)
  | tup {a : Addr} {vs : List V} {ds : List D} : TuP K W.F a vs → vs.length ≤ sizeLine → W.Rps K vs ds → Rd K W (.ref a) (.tup ds)
  | lst {a : Addr} {vs : List V} {ds : List D} : LsR K W a vs → vs.length ≤ sizeLine → W.Rps K vs ds → Rd K W (.ref a) (.lst ds)
  | obj {a : Addr} {n : Nat} : W.io[n]? = some a → Rd K W (.ref a) (.obj n)
  | set {a : Addr} {m : Bool} {L : List Kv} {es ds : List D} : W.F a = some (SetV K.wo m a L) → W.Rps K (L.map (·.1)) es → es.map nkD = L.map (fun p => some p.2) → es.Perm ds → Rd K W (.ref a) (.set ds)
  | dct {a : Addr} {L : List Ev3} {ks vs : List D} : DcR K W a L → L.length ≤ sizeLine → W.Rps K (L.map (·.1)) ks → W.Rps K (L.map (·.2.2)) vs → ks.map nkD = L.map (fun p => some p.2.1) → Rd K W (.ref a) (.dct ks vs)
  | itv {v a : Addr} {o : Obj} {L : List Ev3} {ks vs : List D} : W.F v = some (L2.DX.itemsO v a) → W.F a = some (.frz o (DcV K.wo a L)) → L.length ≤ sizeLine → W.Rps K (L.map (·.1)) ks → W.Rps K (L.map (·.2.2)) vs → ks.map nkD = L.map (fun p => some p.2.1) → Rd K W (.ref v) (.itv ks vs)
section
variable {K : Kx} {W W' : Wd}
theorem Rep.rd {v : V} {d : D} (r : W.Rp K v d) : Rd K W v d := by
  cases r with
  | non => exact .non
  | bl b => exact .bl b
  | int i => exact .int i
  | str s => exact .str s
  | tup h l r => exact .tup h l r
  | lst h l r => exact .lst (.inl h) l r
  | obj h => exact .obj h
  | set h r e p => exact .set h r e p
  | dct h l r q e => exact .dct (.inl ⟨_, h⟩) l r q e
  | itv h h2 l r q e => exact .itv h h2 l r q e
theorem Le.nio0 (l : Le W W') {p : Addr} {o : HO} (h : W.H p = some o) (hi : p ∉ W.io) : p ∉ W'.io := by
  obtain ⟨m, e, n⟩ := l.io
  rw [e]
  intro hm
  rcases List.mem_append.mp hm with z | z
  · exact hi z
  · rw [n p z] at h; cases h
theorem Le.lsR (l : Le W W') {a : Addr} {vs : List V} (h : LsR K W a vs) : LsR K W' a vs := by
  rcases h with h | ⟨h, n⟩
  · exact .inl (lsAt_mono l.ff h)
  · exact .inr ⟨l.hh _ _ h n, l.nio0 h n⟩
theorem Le.dcR (l : Le W W') {a : Addr} {L : List Ev3} (h : DcR K W a L) : DcR K W' a L := by
  rcases h with ⟨o, h⟩ | ⟨h, n⟩
  · exact .inl ⟨o, l.ff _ _ h⟩
  · exact .inr ⟨l.hh _ _ h n, l.nio0 h n⟩
theorem Le.rd (l : Le W W') {v : V} {d : D} (r : Rd K W v d) : Rd K W' v d := by
  cases r with
  | non => exact .non
  | bl b => exact .bl b
  | int i => exact .int i
  | str s => exact .str s
  | tup h l' r => exact .tup (h.mono l.ff) l' (l.rps r)
  | lst h l' r => exact .lst (l.lsR h) l' (l.rps r)
  | obj h => exact .obj (l.ix _ _ h)
  | set h r e p => exact .set (l.ff _ _ h) (l.rps r) e p
  | dct h l' r q e => exact .dct (l.dcR h) l' (l.rps r) (l.rps q) e
  | itv h h2 l' r q e => exact .itv (l.ff _ _ h) (l.ff _ _ h2) l' (l.rps r) (l.rps q) e
theorem LsR.ls (ok : W.Ok K) {a : Addr} {vs : List V} (h : LsR K W a vs) : LsAt K W.H a vs := by
  rcases h with h | ⟨h, _⟩
  · exact lsAt_mono ok.ex h
  · exact .inl h
theorem LsR.sq (ok : W.Ok K) {a : Addr} {vs : List V} (h : LsR K W a vs) : SqL K W.H a vs := (h.ls ok).sq
theorem DcR.at_ (ok : W.Ok K) {a : Addr} {L : List Ev3} (h : DcR K W a L) : DcAt K.wo W.H a L := by
  rcases h with ⟨o, h⟩ | ⟨h, _⟩
  · exact .inr ⟨o, ok.ex _ _ h⟩
  · exact .inl h
end
/-- behind W, with the store S' -/
def Aft (K : Kx) (W : Wd) (S' : Sto) (P : Wd → Prop) : Prop := ∀ W', Le W W' → W'.Ok K → W'.S = S' → P W'
/-- what holds so that m, from W on, gives a thing that is as R says -/
def Yl {α β : Type} (K : Kx) (W : Wd) (m : M α) (R : Wd → β → α → Prop) (Q : β → Hp → Prop) : Prop :=
  ∃ a S', m W.S = some (a, S') ∧ Aft K W S' fun W' => ∀ v, R W' v a → Q v W'.H
section
variable (K : Kx)
/-- a code's context: the store's, the frame's -/
def At (σ : L2.St) (H : Hp) (P : Wd → En → Prop) : Prop := ∃ W0 W en, W.H = H ∧ W.Ok K ∧ EnOk K W0 W en σ ∧ P W en
/-- an expression that gives what m says; one who only reads it (b) -/
def tM (m : En → M D) : TE := fun σ H Q => At K σ H fun W en => Yl K W (m en) (fun W' v d => W'.Rp K v d) Q
def tR (m : En → M D) : TE := fun σ H Q => At K σ H fun W en => Yl K W (m en) (fun W' v d => Rd K W' v d) Q
end
end Cv

/-! Cv3: the operations on data are those of the machine. -/
namespace Cv
open PySem PySem.Spec PyProof.Rows L2

mutual
theorem Rep.dp {K : Kx} {F H : Hp} {io : List Addr} (hF : ∀ a o, F a = some o → H a = some o) : ∀ {d : D} {v : V}, Rep K F io v d → d.pl = true → Dp K H v d.py
  | .non, _, .non, _ => .non
  | .bl _, _, .bl b, _ => .bl b
  | .int _, _, .int i, _ => .int i
  | .str _, _, .str s, _ => .str s
  | .tup _, _, .tup h _ r, p => .tup (sqT_mono hF h.sq) (Reps.dp hF r p)
  | .lst _, _, .lst h _ r, p => .lst (sqL_mono hF h.sq) (Reps.dp hF r p)
  | .obj _, _, .obj _, p => nomatch p
  | .set _, _, .set _ _ _ _, p => nomatch p
  | .dct _ _, _, .dct _ _ _ _ _, p => nomatch p
  | .itv _ _, _, .itv _ _ _ _ _ _, p => nomatch p
theorem Reps.dp {K : Kx} {F H : Hp} {io : List Addr} (hF : ∀ a o, F a = some o → H a = some o) : ∀ {ds : List D} {vs : List V}, Reps K F io vs ds → D.pls ds = true → DpAll K H vs (D.pys ds)
  | [], _, .nil, _ => .nil
  | _ :: _, _, .cons h r, p => by
    have q := Bool.and_eq_true_iff.mp p
    exact .cons (Rep.dp hF h q.1) (Reps.dp hF r q.2)
end
theorem Wd.Ok.dp {K : Kx} {W : Wd} (ok : W.Ok K) {v : V} {d : D} (r : W.Rp K v d) (p : d.pl = true) : Dp K W.H v d.py := Rep.dp ok.ex r p
theorem Wd.Ok.sqT {K : Kx} {W : Wd} (ok : W.Ok K) {a : Addr} {xs : List V} (h : TuP K W.F a xs) : SqT K W.H a xs := sqT_mono ok.ex h.sq
theorem Rd.dp {K : Kx} {W : Wd} {v : V} {d : D} (r : Rd K W v d) (ok : W.Ok K) (p : d.pl = true) : Dp K W.H v d.py := by
  cases r with
  | non => exact .non
  | bl b => exact .bl b
  | int i => exact .int i
  | str s => exact .str s
  | tup h _ r => exact .tup (ok.sqT h) (Reps.dp ok.ex r p)
  | lst h _ r => exact .lst (h.sq ok) (Reps.dp ok.ex r p)
  | obj h => cases p
  | set _ _ _ _ => cases p
  | dct _ _ _ _ _ => cases p
  | itv _ _ _ _ _ _ => cases p
theorem Wd.Ok.sqL {K : Kx} {W : Wd} (ok : W.Ok K) {a : Addr} {xs : List V} (h : LsAt K W.F a xs) : SqL K W.H a xs := sqL_mono ok.ex h.sq
theorem Wd.Ok.ls {K : Kx} {W : Wd} (ok : W.Ok K) {a : Addr} {xs : List V} (h : LsAt K W.F a xs) : LsAt K W.H a xs := lsAt_mono ok.ex h

/-- operations by what they do to data -/
def rW2 (K : Kx) (f : D → D → Option D) : R2 := fun x y H Q => ∃ (W : Wd) (dx dy d : D), W.H = H ∧ W.Ok K ∧ Rd K W x dx ∧ Rd K W y dy ∧ f dx dy = some d ∧ Aft K W W.S fun W' => ∀ v, W'.Rp K v d → Q v W'.H
def rW1 (K : Kx) (f : D → Option D) : V → Hp → VK → Prop := fun x H Q => ∃ (W : Wd) (dx d : D), W.H = H ∧ W.Ok K ∧ Rd K W x dx ∧ f dx = some d ∧ Aft K W W.S fun W' => ∀ v, W'.Rp K v d → Q v W'.H
/-- nothing new -/
theorem aft_here {K : Kx} {W : Wd} {d : D} {Q : VK} (ok : W.Ok K) (h : Aft K W W.S fun W' => ∀ v, W'.Rp K v d → Q v W'.H) {v : V} (r : W.Rp K v d) : Q v W.H := h W (Le.refl W) ok rfl v r
/-- a new frozen thing at p -/
theorem aft_new {K : Kx} {W : Wd} {d : D} {Q : VK} (ok : W.Ok K) (h : Aft K W W.S fun W' => ∀ v, W'.Rp K v d → Q v W'.H) {p : Addr} {o : HO} (hp : W.H p = none) (r : (W.fr p o).Rp K (.ref p) d) : Q (.ref p) (upd W.H p o) :=
  h (W.fr p o) (le_fr ok hp) (ok_fr ok hp) rfl _ r
theorem rp_newT {K : Kx} {W : Wd} (ok : W.Ok K) {p : Addr} {o : Obj} {vs : List V} {ds : List D} (ho : o.dict = none) (hp : W.H p = none) (hl : vs.length ≤ sizeLine) (r : W.Rps K vs ds) : (W.fr p (.frz o (.tup vs))).Rp K (.ref p) (.tup ds) :=
  .tup (.inl ⟨o, ho, fr_at⟩) hl ((le_fr ok hp).rps r)
theorem rp_newL {K : Kx} {W : Wd} (ok : W.Ok K) {p : Addr} {vs : List V} {ds : List D} (hp : W.H p = none) (hl : vs.length ≤ sizeLine) (r : W.Rps K vs ds) : (W.fr p (.lst vs)).Rp K (.ref p) (.lst ds) :=
  .lst (.inl fr_at) hl ((le_fr ok hp).rps r)
theorem Reps.rept {K : Kx} {F : Hp} {io : List Addr} {vs : List V} {ds : List D} (r : Reps K F io vs ds) : ∀ n : Nat, Reps K F io (List.replicate n vs).flatten (List.replicate n ds).flatten
  | 0 => .nil
  | n + 1 => by
    rw [List.replicate_succ, List.replicate_succ, List.flatten_cons, List.flatten_cons]
    exact r.app (Reps.rept r n)

def Bo.op : Bo → Operator
  | .add => .Add
  | .sub => .Sub
  | .mul => .Mult
  | .fdiv => .FloorDiv
  | .mod => .Mod
  | .pow => .Pow
section
variable {X : Cx}
theorem ls_obj {pins : List (Addr × Obj)} {σ : L2.St} {H : Hp} {s : Shared} {a : Addr} {xs : List V} (I : Inv X pins σ H s) (h : LsAt X.kx H a xs) :
    ∃ (its : List Value) (n : Nat), Vals xs its ∧ s.heap.get? a = some { cls := .type "list", data := .seq its.toArray n } ∧ its.length ≤ sizeLine := by
  rcases h with h | ⟨its, n, h⟩ | ⟨its, n, h1, h2, h3⟩
  · obtain ⟨z, its, n, r, e⟩ := I.hok a _ h
    exact ⟨its, n, r, e, by rw [← r.length]; exact z⟩
  · obtain ⟨e, q⟩ := I.hok a _ h
    obtain ⟨z, its2, n2, r, e2⟩ := (show ObjOk X.prog X.w H s.heap a (.lst xs) from q)
    exact ⟨its2, n2, r, e2, by rw [← r.length]; exact z⟩
  · exact ⟨its, n, h2, I.kIn a _ h1, h3⟩
def rCatL (K : Kx) : R2 := fun x y H Q => ∃ l b xs zs, x = .ref l ∧ y = .ref b ∧ LsAt K H l xs ∧ LsAt K H b zs ∧ xs.length + zs.length ≤ sizeLine ∧ ∀ p, H p = none → Q (.ref p) (upd H p (.lst (xs ++ zs)))
theorem op_catL : OpR X (binaryOp .Add) (rCatL X.kx) := by
  intro pins s σ H x y v u Q I rx ry h
  obtain ⟨l, b, xs, zs, rfl, rfl, h1, h2, hz, q⟩ := h
  cases rx
  cases ry
  obtain ⟨i1, n1, r1, e1, z1⟩ := ls_obj I h1
  obtain ⟨i2, n2, r2, e2, z2⟩ := ls_obj I h2
  have m1 := r1.length
  have m2 := r2.length
  refine PySem.P.add_list e1 e2 ?_ (by simp only [List.size_toArray]; omega)
  rw [show i1.toArray ++ i2.toArray = (i1 ++ i2).toArray by simp]
  exact ⟨.ref _, _, I.lnew (t' := s.toks) (r1.append r2) (by rw [List.length_append]; omega), rfl, q _ I.fresh⟩
theorem op_fdivA : OpR X (binaryOp .FloorDiv) (rI (fun _ j => j ≠ 0 ∧ j.natAbs.log2 < 9000) fun i j => .int (i.fdiv j)) := opI fun _ _ _ _ _ _ _ hc q =>
  floordiv_int hc.1 q (.inl (PyProof.noPylong_of_log2 hc.2))
theorem sm_mul {i j : Int} (h : (sm i && sm j) = true) : CMulW i j := by
  have q := Bool.and_eq_true_iff.mp h
  have q1 := of_decide_eq_true q.1
  have q2 := of_decide_eq_true q.2
  unfold CMulW
  omega
/-- nothing, several times -/
theorem nil_mul (l : Addr) (n : Nat) (dd : Option Addr) (sl : Array (Option Value)) (x : Int) (u : Tok) (hx : (decide (x < -(2 ^ 63)) || decide (x ≥ 2 ^ 63)) = false) :
    Meets (Builtin.«tuple.__mul__» ⟨[.ref l, .int x u], []⟩) (fun _ R s => s.heap.get? l = some { cls := .type "tuple", dict := dd, data := .seq #[] n, slots := sl } ∧ R (.ok (.ret (Value.ref l))) s) :=
  .of_wp fun prog w A R s h => by
    obtain ⟨hp, g, d, tk, os⟩ := s
    obtain ⟨hl, h⟩ := h
    have here := AutoSeq1.idx_int
    wp_walk using wpAny_loadPart' hl
    refine wpAny_ite_false (decide_eq_false (by rw [hx]; exact Bool.false_ne_true)) ?_
    wp_walk using wpAny_loadPart' hl
    exact ⟨_, rfl, h⟩
theorem one_mul (l : Addr) (items : Array Value) (n : Nat) (dd : Option Addr) (sl : Array (Option Value)) (u : Tok) :
    Meets (Builtin.«tuple.__mul__» ⟨[.ref l, .int 1 u], []⟩) (fun _ R s => s.heap.get? l = some { cls := .type "tuple", dict := dd, data := .seq items n, slots := sl } ∧ R (.ok (.ret (Value.ref l))) s) :=
  .of_wp fun prog w A R s h => by
    obtain ⟨hp, g, d, tk, os⟩ := s
    obtain ⟨hl, h⟩ := h
    have here := AutoSeq1.idx_int
    wp_walk using wpAny_loadPart' hl
    exact ⟨_, rfl, h⟩
theorem zero_mul (l : Addr) (items : Array Value) (n : Nat) (dd : Option Addr) (sl : Array (Option Value)) (u : Tok) (hne : items.isEmpty = false) :
    Meets (Builtin.«tuple.__mul__» ⟨[.ref l, .int 0 u], []⟩) (fun _ R s => s.heap.get? l = some { cls := .type "tuple", dict := dd, data := .seq items n, slots := sl } ∧ R (.ok (.ret (Value.ref s.heap.objs.size))) { s with heap := s.heap.push { cls := Value.type "tuple", data := Data.seq #[] } }) :=
  .of_wp fun prog w A R s h => by
    obtain ⟨hp, g, d, tk, os⟩ := s
    obtain ⟨hl, h⟩ := h
    have here := AutoSeq1.idx_int
    wp_walk using wpAny_loadPart' hl
    exact ⟨_, rfl, h⟩
/-- a list several times -/
def rRepL (K : Kx) : R2 := fun x y H Q => ∃ l k xs, x = .ref l ∧ y = .int k ∧ LsAt K H l xs ∧ -(2 ^ 63) ≤ k ∧ k < 2 ^ 63 ∧ xs.length * k.toNat ≤ sizeLine ∧
  ∀ p, H p = none → Q (.ref p) (upd H p (.lst (List.replicate k.toNat xs).flatten))
theorem op_repL : OpR X (binaryOp .Mult) (rRepL X.kx) := by
  intro pins s σ H x y v u Q I rx ry h
  obtain ⟨l, k, xs, rfl, rfl, hH, h1, h2, hz, q⟩ := h
  cases rx
  obtain ⟨t, rfl⟩ := ry
  obtain ⟨its, n, r, e, _⟩ := ls_obj I hH
  have hl := r.length
  have hlen : its.toArray.size * k.toNat ≤ sizeLine := by rw [List.size_toArray, ← hl]; exact hz
  have hcap : ¬ its.toArray.size * k.toNat > (2 ^ 63 - 1) / 8 := by
    have : (sizeLine : Nat) ≤ (2 ^ 63 - 1) / 8 := by decide
    omega
  have hfit : ¬ (!Builtin.List.listFitsIndex k) = true := by
    rw [fitsIndex_both h1 h2]
    exact Bool.false_ne_true
  have hlong : ¬ Builtin.List.listTooLong (its.toArray.size * k.toNat) = true := by
    rw [notLongL hlen]
    exact Bool.false_ne_true
  have hnew : List.foldl (fun x1 x2 => x1 ++ x2) #[] (List.replicate (if its.toArray.isEmpty = true then 0 else k.toNat) its.toArray) = (List.replicate k.toNat its).flatten.toArray := by
    have f0 : ∀ m : Nat, List.foldl (fun x1 x2 => x1 ++ x2) #[] (List.replicate m its.toArray) = (List.replicate m its).flatten.toArray := fun m => by
      have := foldl_rep its m []
      rw [List.nil_append] at this
      exact this
    rw [f0]
    cases its with
    | nil => simp
    | cons a r' => rw [if_neg (by simp)]
  refine wpAny_binaryOp_repeat_ref (T := "list") (U := "int") (by decide) ⟨_, e, rfl⟩ (fun s' => typeIs_int s' k t) noFill_list_mul F.fills_int_mul F.slot_int_rmul repeat_list F.slot_int_index.lookup
    (call_meets F.slot_int_rmul (typeIs_int s k t) F.entry_int_rmul (F.args_int_rmul_2 _ _) (int___rmul___int_list k t l its.toArray n)
      ⟨e, rfl, ⟨_, e, rfl⟩, call_meets F.slot_list_mul ⟨_, e, rfl⟩ F.entry_list_mul (F.args_list_mul_2 _ _) (AutoListH.list___mul___list_int_3 l its.toArray n k t hfit hcap hlong) ⟨e, ?_⟩⟩)
  rw [hnew]
  exact ⟨.ref _, _, I.lnew (t' := s.toks) (r.rep k.toNat) (by rw [PyProof.Rows.lm_len_rep_flat, Nat.mul_comm]; exact hz), rfl, q _ I.fresh⟩
/-- a tuple several times: none, once, more -/
def rMulT (K : Kx) : R2 := fun x y H Q => ∃ l k xs, x = .ref l ∧ y = .int k ∧ SqT K H l xs ∧ 0 ≤ k ∧ k ≤ 1000 ∧ xs.length ≤ 1000 ∧
  (xs = [] → Q (.ref l) H) ∧ (k = 1 → Q (.ref l) H) ∧ (xs ≠ [] → k ≠ 1 → ∀ p o, o.dict = none → H p = none → Q (.ref p) (upd H p (.frz o (.tup (List.replicate k.toNat xs).flatten))))
theorem op_mulT : OpR X (binaryOp .Mult) (rMulT X.kx) := by
  intro pins s σ H x y v u Q I rx ry h
  obtain ⟨l, k, xs, rfl, rfl, hT, h1, h2, hz, q0, q1, q2⟩ := h
  by_cases big : xs ≠ [] ∧ 2 ≤ k
  · exact op_repZ pins s σ H _ _ v u Q I rx ry ⟨l, k, xs, rfl, rfl, hT, big.1, big.2, h2, hz, q2 big.1 (by omega)⟩
  cases rx
  obtain ⟨t, rfl⟩ := ry
  obtain ⟨its, r, ⟨⟨cls, dd, data, sl⟩, ho, hc, n, hd⟩, hs⟩ := I.tuple hT
  simp only at hc hd
  subst hc hd
  have road : ∀ {Qv : Value → Shared → Prop}, wpAny (model X.prog X.w) X.A (call (.builtin "tuple.__mul__") [.ref l, .int k t]) Qv X.xe s → wpAny (model X.prog X.w) X.A (binaryOp .Mult (.ref l) (.int k t)) Qv X.xe s := fun {Qv} h =>
    wpAny_binaryOp_repeat_ref (T := "tuple") (U := "int") (by decide) ⟨_, ho, rfl⟩ (fun s' => typeIs_int s' k t) noFill_tuple_mul F.fills_int_mul F.slot_int_rmul repeat_tuple AutoSeq1.idx_int
      (call_meets F.slot_int_rmul (typeIs_int s k t) F.entry_int_rmul (F.args_int_rmul_2 _ _) (int_rmul_tuple k t l its.toArray n dd sl) ⟨ho, rfl, ⟨_, ho, rfl⟩, h⟩)
  by_cases hx : xs = []
  · subst hx
    cases r
    have hx : (decide (k < -(2 ^ 63)) || decide (k ≥ 2 ^ 63)) = false := by
      rw [decide_eq_false (by omega), decide_eq_false (by omega)] <;> rfl
    exact road (call_meets F.slot_tuple_mul ⟨_, ho, rfl⟩ F.entry_tuple_mul (F.args_tuple_mul_2 _ _) (nil_mul l n dd sl k t hx) ⟨ho, .ref l, _, I, rfl, q0 rfl⟩)
  by_cases h1k : k = 1
  · subst h1k
    exact road (call_meets F.slot_tuple_mul ⟨_, ho, rfl⟩ F.entry_tuple_mul (F.args_tuple_mul_2 _ _) (one_mul l its.toArray n dd sl t) ⟨ho, .ref l, _, I, rfl, q1 rfl⟩)
  have k0 : k = 0 := by
    have : ¬ 2 ≤ k := fun z => big ⟨hx, z⟩
    omega
  subst k0
  have hne : its.toArray.isEmpty = false := by
    cases its with
    | nil => exact absurd (List.eq_nil_of_length_eq_zero r.length) hx
    | cons a b => rfl
  refine road (call_meets F.slot_tuple_mul ⟨_, ho, rfl⟩ F.entry_tuple_mul (F.args_tuple_mul_2 _ _) (zero_mul l its.toArray n dd sl t hne) ⟨ho, ?_⟩)
  exact ⟨.ref s.heap.objs.size, _, I.laid (t' := s.toks) (o := tuZ [] []) (fun b ob z => Heap.get?_push_of_some _ z) (Nat.le_refl _) (tuZ_ok (by show 0 ≤ sizeLine; exact Nat.zero_le _) .nil (Heap.get?_push_size _ rfl)), rfl, q2 hx (by decide) _ _ rfl (I.hok.fresh (Nat.le_refl _))⟩
theorem op_bin (o : Bo) : OpR X (binaryOp o.op) (rW2 X.kx (binD o)) := by
  intro pins s σ H x y v u Q I rx ry h
  obtain ⟨W, dx, dy, d, rfl, ok, qx, qy, e, k⟩ := h
  cases o with
  | add =>
    cases qx with
    | bl b =>
      cases qy with
      | int j =>
        cases e
        cases rx
        obtain ⟨t, rfl⟩ := ry
        exact PySem.IntBool.add_bool_int ⟨.int _, _, I.tok _, ⟨_, rfl⟩, aft_here ok k (.int _)⟩
      | _ => cases e
    | int i =>
      cases qy with
      | int j =>
        cases e
        exact op_add pins s σ _ _ _ v u Q I rx ry ⟨i, j, rfl, rfl, aft_here ok k (.int _)⟩
      | _ => cases e
    | str i =>
      cases qy with
      | str j =>
        have e : (if i.length + j.length ≤ sizeLine then some (D.str (i ++ j)) else none) = some d := e
        split at e
        · cases e
          exact op_add_str pins s σ _ _ _ v u Q I rx ry ⟨i, j, rfl, rfl, by assumption, aft_here ok k (.str _)⟩
        · cases e
      | _ => cases e
    | @tup a vs ds hx lx rx' =>
      cases qy with
      | @tup b ws es hy ly ry' =>
        have e : (if ds.length + es.length ≤ sizeLine then some (D.tup (ds ++ es)) else none) = some d := e
        split at e
        · rename_i hz
          cases e
          rw [← rx'.len, ← ry'.len] at hz
          refine op_catZ pins s σ _ _ _ v u Q I rx ry ⟨a, b, vs, ws, rfl, rfl, ok.sqT hx, ok.sqT hy, hz, ?_⟩
          refine ⟨fun hn => ?_, fun _ hn2 => ?_, fun _ hn2 p o ho hp => ?_⟩
          · subst hn
            cases rx'
            exact aft_here ok k (.tup hy ly ry')
          · subst hn2
            cases ry'
            rw [List.append_nil] at k
            exact aft_here ok k (.tup hx lx rx')
          · exact aft_new ok k hp (rp_newT ok ho hp (by rw [List.length_append]; exact hz) (rx'.app ry'))
        · cases e
      | _ => cases e
    | @lst a vs ds hx lx rx' =>
      cases qy with
      | @lst b ws es hy ly ry' =>
        have e : (if ds.length + es.length ≤ sizeLine then some (D.lst (ds ++ es)) else none) = some d := e
        split at e
        · rename_i hz
          cases e
          rw [← rx'.len, ← ry'.len] at hz
          exact op_catL pins s σ _ _ _ v u Q I rx ry ⟨a, b, vs, ws, rfl, rfl, hx.ls ok, hy.ls ok, hz, fun p hp => aft_new ok k hp (rp_newL ok hp (by rw [List.length_append]; exact hz) (rx'.app ry'))⟩
        · cases e
      | _ => cases e
    | _ => cases qy <;> cases e
  | sub =>
    cases qx with
    | int i =>
      cases qy with
      | int j =>
        cases e
        exact op_sub pins s σ _ _ _ v u Q I rx ry ⟨i, j, rfl, rfl, aft_here ok k (.int _)⟩
      | _ => cases e
    | _ => cases qy <;> cases e
  | mul =>
    cases qx with
    | int i =>
      cases qy with
      | int j =>
        have e : (if sm i && sm j then some (D.int (i * j)) else none) = some d := e
        split at e
        · cases e
          exact op_mulW pins s σ _ _ _ v u Q I rx ry ⟨i, j, rfl, rfl, sm_mul (by assumption), aft_here ok k (.int _)⟩
        · cases e
      | _ => cases e
    | @tup a vs ds hx lx rx' =>
      cases qy with
      | int n =>
        have e : (if decide (0 ≤ n) && decide (n ≤ 1000) && decide (ds.length ≤ 1000) then some (D.tup (repI n ds)) else none) = some d := e
        split at e
        · rename_i hz
          cases e
          simp only [Bool.and_eq_true, decide_eq_true_eq] at hz
          obtain ⟨⟨h1, h2⟩, h4⟩ := hz
          have hl := rx'.len
          refine op_mulT pins s σ _ _ _ v u Q I rx ry ⟨a, n, vs, rfl, rfl, ok.sqT hx, h1, h2, by omega, fun h3 => ?_, fun h3 => ?_, fun _ _ p o ho hp => aft_new ok k hp (rp_newT ok ho hp ?_ (rx'.rept _))⟩
          · subst h3
            cases rx'
            have e0 : repI n ([] : List Cv.D) = [] := by unfold repI; simp
            rw [e0] at k
            exact aft_here ok k (.tup hx lx .nil)
          · subst h3
            have e0 : repI 1 ds = ds := by unfold repI; simp
            rw [e0] at k
            exact aft_here ok k (.tup hx lx rx')
          · rw [List.length_flatten, List.map_replicate, List.sum_replicate_nat]
            have a1 : n.toNat ≤ 1000 := by omega
            have a2 : vs.length ≤ 1000 := by omega
            exact Nat.le_trans (Nat.mul_le_mul a1 a2) (by rw [sizeLine_eq]; decide)
        · cases e
      | _ => cases e
    | @lst a vs ds hx lx rx' =>
      cases qy with
      | int n =>
        have e : (if decide (0 ≤ n) && decide (n ≤ 1000) && decide (ds.length ≤ 1000) then some (D.lst (repI n ds)) else none) = some d := e
        split at e
        · rename_i hz
          cases e
          simp only [Bool.and_eq_true, decide_eq_true_eq] at hz
          obtain ⟨⟨h1, h2⟩, h4⟩ := hz
          have hl := rx'.len
          have a1 : n.toNat ≤ 1000 := by omega
          have a2 : vs.length ≤ 1000 := by omega
          have a3 := Nat.mul_le_mul a2 a1
          refine op_repL pins s σ _ _ _ v u Q I rx ry ⟨a, n, vs, rfl, rfl, hx.ls ok, by omega, by omega, by rw [sizeLine_eq]; omega, fun p hp => aft_new ok k hp (rp_newL ok hp ?_ (rx'.rept _))⟩
          rw [List.length_flatten, List.map_replicate, List.sum_replicate_nat]
          exact Nat.le_trans (Nat.mul_le_mul a1 a2) (by rw [sizeLine_eq]; decide)
        · cases e
      | _ => cases e
    | _ => cases qy <;> cases e
  | fdiv =>
    cases qx with
    | int i =>
      cases qy with
      | int j =>
        have e : (if decide (j ≠ 0) && sm j then some (D.int (i.fdiv j)) else none) = some d := e
        split at e
        · rename_i hz
          cases e
          have q := Bool.and_eq_true_iff.mp hz
          have q2 := of_decide_eq_true q.2
          exact op_fdivA pins s σ _ _ _ v u Q I rx ry ⟨i, j, rfl, rfl, ⟨of_decide_eq_true q.1, by omega⟩, aft_here ok k (.int _)⟩
        · cases e
      | _ => cases e
    | _ => cases qy <;> cases e
  | mod =>
    cases qx with
    | int i =>
      cases qy with
      | int j =>
        have e : (if j ≠ 0 then some (D.int (i.fmod j)) else none) = some d := e
        split at e
        · cases e
          exact op_modN pins s σ _ _ _ v u Q I rx ry ⟨i, j, rfl, rfl, by assumption, aft_here ok k (.int _)⟩
        · cases e
      | _ => cases e
    | _ => cases qy <;> cases e
  | pow =>
    cases qx with
    | int i =>
      cases qy with
      | int j =>
        have e : (if decide (0 ≤ j) && decide (j ≤ 1000) && decide (i.natAbs < 2 ^ 64) then some (D.int (i ^ j.toNat)) else none) = some d := e
        split at e
        · rename_i hz
          cases e
          simp only [Bool.and_eq_true, decide_eq_true_eq] at hz
          exact op_pow pins s σ _ _ _ v u Q I rx ry ⟨i, j, rfl, rfl, ⟨hz.1.1, by omega, hz.2⟩, aft_here ok k (.int _)⟩
        · cases e
      | _ => cases e
    | _ => cases qy <;> cases e
end
end Cv

/-! Cv4: comparisons, built-ins, places, slices: as the machine has them. -/
namespace Cv
open PySem PySem.Spec PyProof.Rows L2

def Co.op : Co → CmpOp
  | .lt => .Lt
  | .le => .LtE
  | .gt => .Gt
  | .ge => .GtE
  | .eq => .Eq
  | .ne => .NotEq
  | .isin => .In
  | .notin => .NotIn
  | .isn => .Is
  | .notn => .IsNot
/-- a comparison's answer -/
def rWc (K : Kx) (f : D → D → Option Bool) : R2 := fun x y H Q => ∃ (W : Wd) (dx dy : D) (b : Bool), W.H = H ∧ W.Ok K ∧ Rd K W x dx ∧ Rd K W y dy ∧ f dx dy = some b ∧ Q (.bl b) W.H
theorem if_some {α : Type} {c : Bool} {a b : α} (h : (if c = true then some a else none) = some b) : c = true ∧ a = b := by
  cases c with
  | true => exact ⟨rfl, Option.some.inj h⟩
  | false => cases h
theorem ifp_some {α : Type} {c : Prop} [Decidable c] {a b : α} (h : (if c then some a else none) = some b) : c ∧ a = b := by
  by_cases q : c
  · rw [if_pos q] at h; exact ⟨q, Option.some.inj h⟩
  · rw [if_neg q] at h; cases h
theorem shp_pl {d : D} (h : shp d = true) : d.pl = true ∧ SeqAt.shaped d.py = true := Bool.and_eq_true_iff.mp h
theorem room_sh {A : Around} {xs : List PyData} {d : PyData} (h : SeqAt.shaped d = true) (hu : A.units + 70 < cLine) : A.units + 1 + min (PyData.depthAll xs) d.depth < cLine := by
  have h1 := SeqAt.depth_of_shaped h
  have h2 : min (PyData.depthAll xs) d.depth ≤ d.depth := Nat.min_le_right _ _
  omega
mutual
theorem noDict_py : ∀ d : D, d.py.hasDict = false
  | .non => rfl
  | .bl _ => rfl
  | .int _ => rfl
  | .str _ => rfl
  | .tup xs => noDict_pys xs
  | .lst xs => noDict_pys xs
  | .dct _ _ => rfl
  | .itv _ _ => rfl
  | .set _ => rfl
  | .obj _ => rfl
  | .fn _ => rfl
theorem noDict_pys : ∀ ds : List D, PyData.hasDictAll (D.pys ds) = false
  | [] => rfl
  | d :: ds => by
    show (d.py.hasDict || PyData.hasDictAll (D.pys ds)) = false
    rw [noDict_py d, noDict_pys ds]
    rfl
end
/-! ### keys, sets, sorting -/
mutual
theorem nk_py : ∀ (d : D) (k : NestedKey), nkD d = some k → d.py = k.data ∧ d.pl = true ∧ k.depth ≤ d.py.depth
  | .non, k, h => by cases h; exact ⟨rfl, rfl, Nat.le_refl _⟩
  | .bl _, _, h => nomatch h
  | .int i, k, h => by cases h; exact ⟨rfl, rfl, Nat.le_refl _⟩
  | .str s, k, h => by cases h; exact ⟨rfl, rfl, Nat.le_refl _⟩
  | .tup xs, k, h => by
    obtain ⟨ks, h1, h2⟩ := Option.map_eq_some_iff.mp (show (nksD xs).map NestedKey.tup = some k from h)
    subst h2
    obtain ⟨a, b, c⟩ := nks_py xs ks h1
    refine ⟨?_, b, ?_⟩
    · show PyData.tuple (D.pys xs) = PyData.tuple (NestedKey.datas ks)
      rw [a]
    · show NestedKey.depthAll ks + 1 ≤ (PyData.tuple (D.pys xs)).depth
      simp only [PyData.depth]
      omega
  | .lst _, _, h => nomatch h
  | .dct _ _, _, h => nomatch h
  | .itv _ _, _, h => nomatch h
  | .set _, _, h => nomatch h
  | .obj _, _, h => nomatch h
  | .fn _, _, h => nomatch h
theorem nks_py : ∀ (ds : List D) (ks : List NestedKey), nksD ds = some ks → D.pys ds = NestedKey.datas ks ∧ D.pls ds = true ∧ NestedKey.depthAll ks ≤ PyData.depthAll (D.pys ds)
  | [], ks, h => by cases h; exact ⟨rfl, rfl, Nat.le_refl _⟩
  | d :: ds, ks, h => by
    unfold nksD at h
    split at h
    · rename_i k r h1 h2
      cases h
      obtain ⟨a, b, c⟩ := nk_py d k h1
      obtain ⟨a2, b2, c2⟩ := nks_py ds r h2
      refine ⟨?_, ?_, ?_⟩
      · show d.py :: D.pys ds = k.data :: NestedKey.datas r
        rw [a, a2]
      · show (d.pl && D.pls ds) = true
        rw [b, b2]; rfl
      · show max k.depth (NestedKey.depthAll r) ≤ PyData.depthAll (d.py :: D.pys ds)
        simp only [PyData.depthAll]
        omega
    · cases h
end
mutual
theorem nk_inj : ∀ (d e : D) (k : NestedKey), nkD d = some k → nkD e = some k → d = e
  | .non, e, k, h, h2 => by cases h; cases e <;> first | rfl | (simp [nkD] at h2)
  | .bl _, _, _, h, _ => nomatch h
  | .int i, e, k, h, h2 => by cases h; cases e <;> simp [nkD] at h2; rw [h2]
  | .str s, e, k, h, h2 => by cases h; cases e <;> simp [nkD] at h2; rw [h2]
  | .tup xs, e, k, h, h2 => by
    obtain ⟨ks, h1, h3⟩ := Option.map_eq_some_iff.mp (show (nksD xs).map NestedKey.tup = some k from h)
    subst h3
    cases e with
    | tup ys =>
      obtain ⟨ls, h4, h5⟩ := Option.map_eq_some_iff.mp (show (nksD ys).map NestedKey.tup = some (NestedKey.tup ks) from h2)
      injection h5 with h5
      subst h5
      rw [nks_inj xs ys _ h1 h4]
    | non => simp [nkD] at h2
    | bl _ => simp [nkD] at h2
    | int _ => simp [nkD] at h2
    | str _ => simp [nkD] at h2
    | lst _ => simp [nkD] at h2
    | dct _ _ => simp [nkD] at h2
    | itv _ _ => simp [nkD] at h2
    | set _ => simp [nkD] at h2
    | obj _ => simp [nkD] at h2
    | fn _ => simp [nkD] at h2
  | .lst _, _, _, h, _ => nomatch h
  | .dct _ _, _, _, h, _ => nomatch h
  | .itv _ _, _, _, h, _ => nomatch h
  | .set _, _, _, h, _ => nomatch h
  | .obj _, _, _, h, _ => nomatch h
  | .fn _, _, _, h, _ => nomatch h
theorem nks_inj : ∀ (ds es : List D) (ks : List NestedKey), nksD ds = some ks → nksD es = some ks → ds = es
  | [], es, ks, h, h2 => by
    cases h
    cases es with
    | nil => rfl
    | cons e es =>
      unfold nksD at h2
      split at h2 <;> cases h2
  | d :: ds, es, ks, h, h2 => by
    unfold nksD at h
    split at h
    · rename_i k r h3 h4
      cases h
      cases es with
      | nil => cases h2
      | cons e es =>
        unfold nksD at h2
        split at h2
        · rename_i k' r' h5 h6
          cases h2
          rw [nk_inj d e _ h3 h5, nks_inj ds es _ h4 h6]
        · cases h2
    · cases h
end
theorem keyM_nk {m : Bool} {d : D} (h : keyM m d = true) : ∃ k, nkD d = some k ∧ k.depth ≤ 8 := by
  cases m with
  | true =>
    cases d with
    | tup xs =>
      have h := Bool.and_eq_true_iff.mp (show ((nkD (.tup xs)).isSome && decide ((D.tup xs).py.depth ≤ 8)) = true from h)
      obtain ⟨k, e⟩ := Option.isSome_iff_exists.mp h.1
      exact ⟨k, e, Nat.le_trans (nk_py _ _ e).2.2 (of_decide_eq_true h.2)⟩
    | _ => cases h
  | false =>
    cases d with
    | int i => exact ⟨_, rfl, Nat.zero_le _⟩
    | str s => exact ⟨_, rfl, Nat.zero_le _⟩
    | _ => cases h
/-- a datum that may be in a set -/
theorem kv_rep0 {K : Kx} {F H : Hp} {io : List Addr} {m : Bool} {v : V} {d : D} {k : NestedKey} (hF : ∀ a o, F a = some o → H a = some o) (r : Rep K F io v d) (hm : keyM m d = true) (hk : nkD d = some k) : KvAt K H m (v, k) := by
  obtain ⟨k', e1, e2⟩ := keyM_nk hm
  rw [hk] at e1
  cases e1
  obtain ⟨p1, p2, _⟩ := nk_py d k hk
  refine ⟨?_, e2, ?_⟩
  · have := Rep.dp hF r p2
    rw [p1] at this
    exact this
  · cases m with
    | true =>
      cases d with
      | tup xs => cases r with | tup _ _ _ => exact ⟨_, rfl⟩
      | _ => cases hm
    | false =>
      cases d with
      | int i => cases r; cases hk; exact ⟨.inl i, rfl, rfl⟩
      | str s => cases r; cases hk; exact ⟨.inr s, rfl, rfl⟩
      | _ => cases hm
theorem kv_rep {K : Kx} {F H : Hp} {io : List Addr} {m : Bool} {v : V} {d : D} {k : NestedKey} (hF : ∀ a o, F a = some o → H a = some o) (r : Rep K F io v d) (hm : keyM m d = true) (hk : nkD d = some k) : KvAt K H m (v, k) := kv_rep0 hF r hm hk
/-- a key is a value that stays -/
theorem Rd.rpK {K : Kx} {W : Wd} {v : V} {d : D} {m : Bool} (r : Rd K W v d) (h : keyM m d = true) : W.Rp K v d := by
  cases r with
  | int i => exact .int i
  | str s => exact .str s
  | tup h1 l r => exact .tup h1 l r
  | _ => cases m <;> cases h
theorem dk_cases {ks : List D} (h : dkOk ks = true) : ∃ m, ks.all (keyM m) = true := by
  unfold dkOk at h
  rcases Bool.or_eq_true_iff.mp h with h | h
  · exact ⟨true, h⟩
  · exact ⟨false, h⟩
theorem has_val {k : NestedKey} {x : D} (hx : nkD x = some k) : ∀ {L : List Ev3} {ks : List D}, ks.map nkD = L.map (fun p => some p.2.1) → (valK L k).isSome = hasD ks x
  | [], [], _ => rfl
  | [], _ :: _, h => nomatch h
  | _ :: _, [], h => nomatch h
  | p :: L, y :: ks, h => by
    simp only [List.map_cons, List.cons.injEq] at h
    unfold valK hasD
    rw [List.any_cons, h.1, hx]
    by_cases e : p.2.1 = k
    · rw [if_pos e, e]; simp
    · rw [if_neg e, has_val hx h.2]
      have : decide ((some p.2.1 : Option NestedKey) = some k) = false := decide_eq_false fun z => e (Option.some.inj z)
      rw [this, Bool.false_or]
      unfold hasD
      rw [hx]
theorem lk_val {K : Kx} {F : Hp} {io : List Addr} {k : NestedKey} {x d : D} (hx : nkD x = some k) : ∀ {L : List Ev3} {ks vs : List D}, ks.map nkD = L.map (fun p => some p.2.1) → Reps K F io (L.map (·.2.2)) vs → lkD ks vs x = some d → ∃ v, valK L k = some v ∧ Rep K F io v d
  | [], [], _, _, _, h => by cases h
  | [], _ :: _, _, h, _, _ => nomatch h
  | _ :: _, [], _, h, _, _ => nomatch h
  | p :: L, y :: ks, vs, h, r, e => by
    simp only [List.map_cons, List.cons.injEq] at h
    cases r with
    | cons r1 r2 =>
      unfold lkD at e
      unfold valK
      rw [h.1, hx] at e
      by_cases z : p.2.1 = k
      · rw [if_pos (by rw [z])] at e
        rw [if_pos z]
        cases e
        exact ⟨_, rfl, r1⟩
      · rw [if_neg fun q => z (Option.some.inj q)] at e
        rw [if_neg z]
        exact lk_val hx h.2 r2 e
theorem keysV_D {K : Kx} {W : Wd} (ok : W.Ok K) {m : Bool} : ∀ {L : List Ev3} {ks : List D}, W.Rps K (L.map (·.1)) ks → ks.map nkD = L.map (fun p => some p.2.1) → ks.all (keyM m) = true → KeysV K.fr W.H m L
  | [], [], _, _, _ => fun _ h => nomatch h
  | [], _ :: _, _, h, _ => nomatch h
  | _ :: _, [], _, h, _ => nomatch h
  | q :: L, y :: ks, r, h, a => by
    simp only [List.map_cons, List.cons.injEq] at h
    rw [List.all_cons, Bool.and_eq_true] at a
    cases r with
    | cons r1 r2 =>
      intro p hp
      rcases List.mem_cons.mp hp with e | e
      · rw [e]; exact kv_rep0 ok.ex r1 a.1 h.1
      · exact keysV_D ok r2 h.2 a.2 p e
theorem ask_D {K : Kx} {W : Wd} (ok : W.Ok K) {a : Addr} {L : List Ev3} {ks : List D} {x : V} {dx : D} (hx : DcR K W a L) (r : W.Rps K (L.map (·.1)) ks) (ek : ks.map nkD = L.map fun p => some p.2.1) (qx : Rd K W x dx) (h : dkOk (dx :: ks) = true) :
    ∃ m k, Ask K.fr K.wo W.H a m L x k ∧ nkD dx = some k ∧ (valK L k).isSome = hasD ks dx := by
  obtain ⟨m, hm⟩ := dk_cases h
  rw [List.all_cons, Bool.and_eq_true] at hm
  obtain ⟨k, hk, _⟩ := keyM_nk hm.1
  exact ⟨m, k, ⟨hx.at_ ok, keysV_D ok r ek hm.2, kv_rep0 ok.ex (qx.rpK hm.1) hm.1 hk⟩, hk, has_val hk ek⟩
section
variable {X : Cx}
theorem op_cmp (hu : X.A.units + 100 < cLine) (o : Co) : OpR X (compareOp o.op) (rWc X.kx (cmpD o)) := by
  intro pins s σ H x y v u Q I rx ry h
  obtain ⟨W, dx, dy, b, rfl, ok, qx, qy, e, k⟩ := h
  cases o with
  | lt =>
    cases qx with
    | int i =>
      cases qy with
      | int j => cases e; exact op_lt pins s σ _ _ _ v u Q I rx ry ⟨i, j, rfl, rfl, k⟩
      | _ => cases e
    | str i =>
      cases qy with
      | str j =>
        cases e
        obtain ⟨t, rfl⟩ := rx
        obtain ⟨t', rfl⟩ := ry
        exact (PySem.W.rcLt_alike (.str i) (.str j) X.A s _ _ _ _ (Reads.str i t) (Reads.str j t') (by simp [PySem.W.alike]) (by intro z; cases z) (by simp [PyData.depth]; omega)) X.prog X.w X.xe _ ⟨.bl _, W.H, I, rfl, k⟩
      | _ => cases e
    | @tup a vs ds hx lx rx' =>
      cases qy with
      | @tup c ws es hy ly ry' =>
        have e : (if (D.pls ds && D.pls es && PySem.W.alikeAll (D.pys ds) (D.pys es) && decide (PyData.depthAll (D.pys ds) ≤ 64)) = true then some (PySem.W.dataLt (.tuple (D.pys ds)) (.tuple (D.pys es))) else none) = some b := e
        obtain ⟨hc, e⟩ := if_some e
        subst e
        simp only [Bool.and_eq_true, decide_eq_true_eq] at hc
        obtain ⟨⟨⟨h1, h2⟩, h3⟩, h4⟩ := hc
        have q1 := Rd.dp (.tup hx lx rx') ok h1
        have q2 := Rd.dp (.tup hy ly ry') ok h2
        obtain ⟨as, r1⟩ := Dp.reads I _ _ _ q1 rx
        obtain ⟨bs, r2⟩ := Dp.reads I _ _ _ q2 ry
        exact (PySem.W.rcLt_alike _ _ X.A s _ _ _ _ r1 r2 (by show PySem.W.alike (.tuple _) (.tuple _) = true; rw [PySem.W.alike]; exact h3) (by intro z; cases z) (by
          have : min (PyData.depth (D.py (.tup ds))) (PyData.depth (D.py (.tup es))) ≤ PyData.depth (D.py (.tup ds)) := Nat.min_le_left _ _
          have h5 : PyData.depth (D.py (.tup ds)) = PyData.depthAll (D.pys ds) + 1 := rfl
          omega)) X.prog X.w X.xe _ ⟨.bl _, W.H, I, rfl, k⟩
      | _ => cases e
    | _ => cases qy <;> cases e
  | le =>
    cases qx with
    | int i =>
      cases qy with
      | int j => cases e; exact op_le pins s σ _ _ _ v u Q I rx ry ⟨i, j, rfl, rfl, k⟩
      | _ => cases e
    | str i =>
      cases qy with
      | str j => cases e; exact op_le_str pins s σ _ _ _ v u Q I rx ry ⟨i, j, rfl, rfl, k⟩
      | _ => cases e
    | _ => cases qy <;> cases e
  | gt =>
    cases qx with
    | int i =>
      cases qy with
      | int j => cases e; exact op_gt pins s σ _ _ _ v u Q I rx ry ⟨i, j, rfl, rfl, k⟩
      | _ => cases e
    | _ => cases qy <;> cases e
  | ge =>
    cases qx with
    | int i =>
      cases qy with
      | int j => cases e; exact op_ge pins s σ _ _ _ v u Q I rx ry ⟨i, j, rfl, rfl, k⟩
      | _ => cases e
    | str i =>
      cases qy with
      | str j => cases e; exact op_ge_str pins s σ _ _ _ v u Q I rx ry ⟨i, j, rfl, rfl, k⟩
      | _ => cases e
    | _ => cases qy <;> cases e
  | eq =>
    by_cases hstr : ∃ a b : Str, dx = .str a ∧ dy = .str b
    · obtain ⟨a, c, rfl, rfl⟩ := hstr
      cases qx
      cases qy
      cases e
      refine op_eq pins s σ _ _ _ v u Q I rx ry ⟨rfl, ?_⟩
      rw [dec_str]
      exact k
    have e : (if (shp dx && shp dy) = true then some (PyData.eqv dx.py dy.py) else none) = some b := by
      cases dx <;> cases dy <;> first | exact e | exact absurd ⟨_, _, rfl, rfl⟩ hstr
    obtain ⟨hc, e⟩ := if_some e
    subst e
    have hc := Bool.and_eq_true_iff.mp hc
    have p1 := shp_pl hc.1
    have p2 := shp_pl hc.2
    exact op_eqD (by omega) pins s σ _ _ _ v u Q I rx ry ⟨_, _, qx.dp ok p1.1, qy.dp ok p2.1, p1.2, p2.2, k⟩
  | ne =>
    by_cases hstr : ∃ a b : Str, dx = .str a ∧ dy = .str b
    · obtain ⟨a, c, rfl, rfl⟩ := hstr
      cases qx
      cases qy
      cases e
      refine op_ne pins s σ _ _ _ v u Q I rx ry ⟨rfl, ?_⟩
      rw [dec_str]
      exact k
    have e : (if (shp dx && shp dy) = true then some (!PyData.eqv dx.py dy.py) else none) = some b := by
      cases dx <;> cases dy <;> first | exact e | exact absurd ⟨_, _, rfl, rfl⟩ hstr
    obtain ⟨hc, e⟩ := if_some e
    subst e
    have hc := Bool.and_eq_true_iff.mp hc
    have p1 := shp_pl hc.1
    have p2 := shp_pl hc.2
    exact op_neD (by omega) pins s σ _ _ _ v u Q I rx ry ⟨_, _, qx.dp ok p1.1, qy.dp ok p2.1, p1.2, p2.2, k⟩
  | isin =>
    cases qy with
    | str j =>
      cases qx with
      | str i => cases e; exact op_in_str pins s σ _ _ _ v u Q I rx ry ⟨i, j, rfl, rfl, k⟩
      | _ => cases e
    | @lst a vs ds hx lx rx' =>
      have e : (if (shp dx && shp (.lst ds)) = true then some (memD dx ds) else none) = some b := by
        cases dx <;> exact e
      obtain ⟨hc, e⟩ := if_some e
      subst e
      have hc := Bool.and_eq_true_iff.mp hc
      have p1 := shp_pl hc.1
      have p2 := shp_pl hc.2
      exact op_inD (by omega) pins s σ _ _ _ v u Q I rx ry ⟨_, _, qx.dp ok p1.1, Rd.dp (.lst hx lx rx') ok p2.1, p1.2, p2.2, k⟩
    | @tup a vs ds hx lx rx' =>
      have e : (if (shp dx && shp (.tup ds)) = true then some (memD dx ds) else none) = some b := by
        cases dx <;> exact e
      obtain ⟨hc, e⟩ := if_some e
      subst e
      have hc := Bool.and_eq_true_iff.mp hc
      have p1 := shp_pl hc.1
      have p2 := shp_pl hc.2
      obtain ⟨as, r1⟩ := Dp.reads I _ _ _ (qx.dp ok p1.1) rx
      obtain ⟨bs, r2⟩ := Dp.reads I _ _ _ (Rd.dp (.tup hx lx rx') ok p2.1) ry
      exact SeqAt.in_tuple_reads r2 r1 (SeqAt.canLay_of_shaped p2.2) (SeqAt.canLay_of_shaped p1.2) (room_sh p1.2 (by omega)) ⟨.bl _, W.H, I, rfl, k⟩
    | @dct a L ks vs hx lx rx' ry' ek =>
      have e : (if dkOk (dx :: ks) = true then some (hasD ks dx) else none) = some b := by
        cases dx <;> exact e
      obtain ⟨hc, e⟩ := if_some e
      subst e
      obtain ⟨m, kk, g, hk, hv⟩ := ask_D ok hx rx' ek qx hc
      refine op_dcIn (by omega) pins s σ _ _ _ v u Q I rx ry ⟨a, m, L, kk, rfl, g, ?_⟩
      rw [hv]
      exact k
    | _ => cases dx <;> cases e
  | notin =>
    cases qy with
    | str j =>
      cases qx with
      | str i => cases e; exact op_notin_str pins s σ _ _ _ v u Q I rx ry ⟨i, j, rfl, rfl, k⟩
      | _ => cases e
    | @lst a vs ds hx lx rx' =>
      have e : (if (shp dx && shp (.lst ds)) = true then some (!memD dx ds) else none) = some b := by
        cases dx <;> exact e
      obtain ⟨hc, e⟩ := if_some e
      subst e
      have hc := Bool.and_eq_true_iff.mp hc
      have p1 := shp_pl hc.1
      have p2 := shp_pl hc.2
      exact op_notInD (by omega) pins s σ _ _ _ v u Q I rx ry ⟨_, _, qx.dp ok p1.1, Rd.dp (.lst hx lx rx') ok p2.1, p1.2, p2.2, k⟩
    | @tup a vs ds hx lx rx' =>
      have e : (if (shp dx && shp (.tup ds)) = true then some (!memD dx ds) else none) = some b := by
        cases dx <;> exact e
      obtain ⟨hc, e⟩ := if_some e
      subst e
      have hc := Bool.and_eq_true_iff.mp hc
      have p1 := shp_pl hc.1
      have p2 := shp_pl hc.2
      obtain ⟨as, r1⟩ := Dp.reads I _ _ _ (qx.dp ok p1.1) rx
      obtain ⟨bs, r2⟩ := Dp.reads I _ _ _ (Rd.dp (.tup hx lx rx') ok p2.1) ry
      exact SeqAt.notIn_tuple_reads r2 r1 (SeqAt.canLay_of_shaped p2.2) (SeqAt.canLay_of_shaped p1.2) (room_sh p1.2 (by omega)) ⟨.bl _, W.H, I, rfl, k⟩
    | @dct a L ks vs hx lx rx' ry' ek =>
      have e : (if dkOk (dx :: ks) = true then some (!hasD ks dx) else none) = some b := by
        cases dx <;> exact e
      obtain ⟨hc, e⟩ := if_some e
      subst e
      obtain ⟨m, kk, g, hk, hv⟩ := ask_D ok hx rx' ek qx hc
      refine op_dcNotIn (by omega) pins s σ _ _ _ v u Q I rx ry ⟨a, m, L, kk, rfl, g, ?_⟩
      rw [hv]
      exact k
    | _ => cases dx <;> cases e
  | isn =>
    cases qy with
    | non => cases qx <;> cases e <;> exact op_isN pins s σ _ _ _ v u Q I rx ry ⟨rfl, k⟩
    | _ => cases dx <;> cases e
  | notn =>
    cases qy with
    | non => cases qx <;> cases e <;> exact op_notN pins s σ _ _ _ v u Q I rx ry ⟨rfl, k⟩
    | _ => cases dx <;> cases e
/-- truth -/
theorem tru_R {W : Wd} (ok : W.Ok X.kx) {x : V} {d : D} {b : Bool} (r : Rd X.kx W x d) (e : truD d = some b) : TruV X.kx x W.H b := by
  cases r with
  | non => cases e; rfl
  | bl c => cases e; rfl
  | int i => cases e; rfl
  | str z =>
    obtain ⟨h1, h2⟩ := ifp_some (show (if z.length ≤ sizeLine then some ((z.length : Int) != 0) else none) = some b from e)
    exact ⟨h1, h2.symm⟩
  | tup hx lx rx =>
    have e2 := Option.some.inj (show some _ = some b from e)
    refine .inr (.inl ⟨_, ok.sqT hx, ?_⟩)
    rw [← e2]
    cases rx <;> rfl
  | lst hx lx rx =>
    have e2 := Option.some.inj (show some _ = some b from e)
    refine .inl ⟨_, hx.sq ok, ?_⟩
    rw [← e2]
    cases rx <;> rfl
  | obj h => cases e
  | set _ _ _ _ => cases e
  | dct _ _ _ _ _ => cases e
  | itv _ _ _ _ _ _ => cases e
theorem tru_D {W : Wd} (ok : W.Ok X.kx) {x : V} {d : D} {b : Bool} (r : W.Rp X.kx x d) (e : truD d = some b) : TruV X.kx x W.H b := tru_R ok r.rd e

/-! ### places, slices -/
def rWi (K : Kx) : R2 := rW2 K idxD
theorem at_rps {F : Hp} {io : List Addr} {K : Kx} {vs : List V} {ds : List D} {i : Int} {d : D} (r : Reps K F io vs ds) (h : atD ds i = some d) : ∃ v, atI vs i = some v ∧ Rep K F io v d := by
  have h : (ixN ds.length i).bind (fun j => ds[j]?) = some d := h
  rw [← r.len] at h
  cases q : ixN vs.length i with
  | none => rw [q] at h; cases h
  | some j =>
    rw [q] at h
    obtain ⟨v, h1, h2⟩ := r.get (i := j) h
    exact ⟨v, by show (ixN vs.length i).bind (fun j => vs[j]?) = some v; rw [q]; exact h1, h2⟩
theorem ix_W (hu : X.A.units + 64 < cLine) : IxR X (rWi X.kx) := by
  intro value slice pins s σ H x y v u Q I rx ry h hs
  obtain ⟨W, dx, dy, d, rfl, ok, qx, qy, e, k⟩ := h
  cases qx with
  | @lst a vs ds hx lx rx' =>
    cases qy with
    | int i =>
      obtain ⟨w, h1, h2⟩ := at_rps rx' (show atD ds i = some d from e)
      exact ix_list value slice pins s σ _ _ _ v u Q I rx ry ⟨a, vs, i, w, rfl, rfl, hx.sq ok, h1, aft_here ok k h2⟩ hs
    | _ => cases e
  | @tup a vs ds hx lx rx' =>
    cases qy with
    | int i =>
      obtain ⟨w, h1, h2⟩ := at_rps rx' (show atD ds i = some d from e)
      exact ix_tup value slice pins s σ _ _ _ v u Q I rx ry ⟨a, vs, i, w, rfl, rfl, ok.sqT hx, h1, aft_here ok k h2⟩ hs
    | _ => cases e
  | str z =>
    cases qy with
    | int i =>
      obtain ⟨h1, h2⟩ : z.length ≤ sizeLine ∧ (atD z.cps.toList i).map (fun c => D.str ⟨#[c]⟩) = some d := by
        have e : (if z.length ≤ sizeLine then (atD z.cps.toList i).map (fun c => D.str ⟨#[c]⟩) else none) = some d := e
        by_cases q : z.length ≤ sizeLine
        · rw [if_pos q] at e; exact ⟨q, e⟩
        · rw [if_neg q] at e; cases e
      obtain ⟨c, h3, h4⟩ := Option.map_eq_some_iff.mp h2
      subst h4
      exact ix_str value slice pins s σ _ _ _ v u Q I rx ry ⟨z, i, c, rfl, rfl, h1, h3, aft_here ok k (.str _)⟩ hs
    | _ => cases e
  | @dct a L ks vs hx lx rx' ry' ek =>
    have e : (if dkOk (dy :: ks) = true then lkD ks vs dy else none) = some d := e
    obtain ⟨hc, e⟩ : dkOk (dy :: ks) = true ∧ lkD ks vs dy = some d := by
      split at e
      · exact ⟨by assumption, e⟩
      · cases e
    obtain ⟨m, kk, g, hk, hv⟩ := ask_D ok hx rx' ek qy hc
    obtain ⟨w, w1, w2⟩ := lk_val hk ek ry' e
    exact ix_dc hu value slice pins s σ _ _ _ v u Q I rx ry ⟨a, m, L, kk, w, rfl, g, w1, aft_here ok k w2⟩ hs
  | _ => cases qy <;> cases e
def rWs (K : Kx) : V → Option Int → Option Int → Hp → VK → Prop := fun x lo hi H Q => rW1 K (fun d => sliD d lo hi) x H Q
theorem cut_rps {F : Hp} {io : List Addr} {K : Kx} {vs : List V} {ds : List D} (r : Reps K F io vs ds) (lo hi : Option Int) : Reps K F io (cutV vs lo hi) (cutD ds lo hi) := by
  unfold cutV cutD
  rw [r.len]
  exact (r.drop _).take _
theorem sl_W : SlR X (rWs X.kx) := by
  intro pins s σ H x v vl vu lo hi sl Q I rx hs pl pu h
  obtain ⟨W, dx, d, rfl, ok, qx, e, k⟩ := h
  cases qx with
  | @lst a vs ds hx lx rx' =>
    cases e
    exact sl_list pins s σ _ _ v vl vu lo hi sl Q I rx hs pl pu ⟨a, vs, rfl, hx.sq ok, fun p hp => aft_new ok k hp (rp_newL ok hp (Nat.le_trans (cutV_length _ _ _) lx) (cut_rps rx' lo hi))⟩
  | @tup a vs ds hx lx rx' =>
    cases e
    refine sl_tupZ pins s σ _ _ v vl vu lo hi sl Q I rx hs pl pu ⟨a, vs, rfl, ok.sqT hx, fun hw => ?_, fun _ p o ho hp => aft_new ok k hp (rp_newT ok ho hp (Nat.le_trans (cutV_length _ _ _) lx) (cut_rps rx' lo hi))⟩
    have e1 : cutD ds lo hi = ds := by
      unfold cutD
      rw [← rx'.len, hw.1, hw.2, rx'.len]
      simp
    rw [e1] at k
    exact aft_here ok k (.tup hx lx rx')
  | str z =>
    obtain ⟨h1, h2⟩ := ifp_some (show (if z.length ≤ sizeLine then some (D.str (cutS z lo hi)) else none) = some d from e)
    subst h2
    exact sl_str pins s σ _ _ v vl vu lo hi sl Q I rx hs pl pu ⟨z, rfl, h1, aft_here ok k (.str _)⟩
  | _ => cases e
end
end Cv

/-! Cv5: built-ins of one argument. -/
namespace Cv
open PySem PySem.Spec PyProof.Rows L2

def rWb (K : Kx) (f : D → Option D) : List V → Hp → VK → Prop := fun vs H Q => ∃ v, vs = [v] ∧ rW1 K f v H Q
theorem ints_rps {K : Kx} {F : Hp} {io : List Addr} : ∀ {ds : List D} {vs : List V} {ns : List Int}, Reps K F io vs ds → intsD ds = some ns → vs = ns.map V.int
  | [], _, _, .nil, e => by cases e; rfl
  | d :: ds, _, ns, .cons h r, e => by
    cases d with
    | int i =>
      obtain ⟨ms, h1, h2⟩ := Option.map_eq_some_iff.mp (show (intsD ds).map (i :: ·) = some ns from e)
      subst h2
      cases h
      rw [ints_rps r h1]
      rfl
    | _ => cases e
theorem bls_rps {K : Kx} {F : Hp} {io : List Addr} : ∀ {ds : List D} {vs : List V} {ns : List Bool}, Reps K F io vs ds → blsD ds = some ns → vs = ns.map V.bl
  | [], _, _, .nil, e => by cases e; rfl
  | d :: ds, _, ns, .cons h r, e => by
    cases d with
    | bl i =>
      obtain ⟨ms, h1, h2⟩ := Option.map_eq_some_iff.mp (show (blsD ds).map (i :: ·) = some ns from e)
      subst h2
      cases h
      rw [bls_rps r h1]
      rfl
    | _ => cases e
/-! ### each once -/
theorem ded_sub : ∀ {xs : List D} {x : D}, x ∈ dedD xs → x ∈ xs
  | y :: ys, x, h => by
    unfold dedD at h
    split at h
    · exact List.mem_cons_of_mem _ (ded_sub h)
    · rcases List.mem_cons.mp h with z | z
      · rw [z]; exact List.mem_cons_self
      · exact List.mem_cons_of_mem _ (ded_sub z)
theorem ded_all : ∀ {xs : List D} {x : D}, x ∈ xs → ∃ y ∈ dedD xs, nkD y = nkD x
  | y :: ys, x, h => by
    unfold dedD
    split
    · rename_i hc
      rcases List.mem_cons.mp h with z | z
      · obtain ⟨u, hu, e⟩ := List.any_eq_true.mp hc
        obtain ⟨t, t1, t2⟩ := ded_all hu
        exact ⟨t, t1, by rw [t2, of_decide_eq_true e, z]⟩
      · exact ded_all z
    · rcases List.mem_cons.mp h with z | z
      · exact ⟨y, List.mem_cons_self, by rw [z]⟩
      · obtain ⟨t, t1, t2⟩ := ded_all z
        exact ⟨t, List.mem_cons_of_mem _ t1, t2⟩
theorem ded_nd : ∀ xs : List D, ((dedD xs).map nkD).Nodup
  | [] => List.nodup_nil
  | y :: ys => by
    unfold dedD
    split
    · exact ded_nd ys
    · rename_i hc
      rw [List.map_cons, List.nodup_cons]
      refine ⟨fun hm => hc ?_, ded_nd ys⟩
      obtain ⟨u, u1, u2⟩ := List.mem_map.mp hm
      exact List.any_eq_true.mpr ⟨u, ded_sub u1, decide_eq_true u2⟩
theorem nd_len {α : Type} [DecidableEq α] : ∀ (l m : List α), l.Nodup → (∀ x ∈ l, x ∈ m) → l.length ≤ m.length
  | [], _, _, _ => Nat.zero_le _
  | x :: l, m, hn, hs => by
    obtain ⟨h1, h2⟩ := List.nodup_cons.mp hn
    have hx : x ∈ m := hs x List.mem_cons_self
    have ih := nd_len l (m.erase x) h2 fun y hy => (List.mem_erase_of_ne fun e => h1 (by rw [← e]; exact hy)).2 (hs y (List.mem_cons_of_mem _ hy))
    have e := List.length_erase_of_mem hx
    have hp : 0 < m.length := List.length_pos_of_mem hx
    rw [List.length_cons]
    omega
/-- pairs of what the names hold and the data -/
def ZOk (K : Kx) (F : Hp) (io : List Addr) (zs : List (V × D)) : Prop := ∀ z ∈ zs, Rep K F io z.1 z.2
theorem zip_ok {K : Kx} {F : Hp} {io : List Addr} : ∀ {vs : List V} {ds : List D}, Reps K F io vs ds → ∃ zs : List (V × D), ZOk K F io zs ∧ vs = zs.map (·.1) ∧ ds = zs.map (·.2)
  | _, _, .nil => ⟨[], (fun z hz => by cases hz), rfl, rfl⟩
  | _, _, .cons (v := v) (d := d) r t => by
    obtain ⟨zs, h1, h2, h3⟩ := zip_ok t
    refine ⟨(v, d) :: zs, fun z hz => ?_, by rw [h2]; rfl, by rw [h3]; rfl⟩
    rcases List.mem_cons.mp hz with e | e
    · rw [e]; exact r
    · exact h1 z e
theorem ok_reps {K : Kx} {F : Hp} {io : List Addr} : ∀ {zs : List (V × D)}, ZOk K F io zs → Reps K F io (zs.map (·.1)) (zs.map (·.2))
  | [], _ => .nil
  | z :: zs, h => .cons (h z List.mem_cons_self) (ok_reps fun y hy => h y (List.mem_cons_of_mem _ hy))
abbrev zV : V × D → Vd := fun z => (z.1, z.2.py)
theorem pys_map : ∀ ds : List D, D.pys ds = ds.map D.py
  | [] => rfl
  | d :: ds => by rw [D.pys, pys_map ds]; rfl
theorem srt_zs {zs : List (V × D)} : ((zs.map zV).mergeSort leV).map (·.1) = (zs.mergeSort (PySem.W.dataLe false fun z : V × D => z.2.py)).map (·.1) ∧ (zs.mergeSort (PySem.W.dataLe false fun z : V × D => z.2.py)).map (·.2) = (zs.map (·.2)).mergeSort leD := by
  refine ⟨?_, List.map_mergeSort fun _ _ _ _ => rfl⟩
  rw [← List.map_mergeSort (r := PySem.W.dataLe false fun z : V × D => z.2.py) (f := zV) (s := leV) fun _ _ _ _ => rfl, List.map_map]
  rfl
theorem srt_reps {K : Kx} {F : Hp} {io : List Addr} {zs : List (V × D)} (h : ZOk K F io zs) : Reps K F io (((zs.map zV).mergeSort leV).map (·.1)) ((zs.map (·.2)).mergeSort leD) := by
  rw [srt_zs.1, ← srt_zs.2]
  exact ok_reps fun z hz => h z ((List.mergeSort_perm _ _).mem_iff.mp hz)
theorem pls_mem : ∀ {ds : List D}, D.pls ds = true → ∀ d ∈ ds, d.pl = true
  | d :: ds, h, e, he => by
    have h := Bool.and_eq_true_iff.mp (show (d.pl && D.pls ds) = true from h)
    rcases List.mem_cons.mp he with z | z
    · rw [z]; exact h.1
    · exact pls_mem h.2 e z
theorem depthAll_mem : ∀ {ds : List D} {n : Nat}, PyData.depthAll (D.pys ds) ≤ n → ∀ d ∈ ds, d.py.depth ≤ n
  | d :: ds, n, h, e, he => by
    have h : max d.py.depth (PyData.depthAll (D.pys ds)) ≤ n := by simpa [D.pys, PyData.depthAll] using h
    rcases List.mem_cons.mp he with z | z
    · rw [z]; omega
    · exact depthAll_mem (by omega) e z
/-- what sorted asks -/
theorem srt_ask {K : Kx} {F H : Hp} {io : List Addr} {zs : List (V × D)} (hF : ∀ a o, F a = some o → H a = some o) (h : ZOk K F io zs) (s : srtOk (zs.map (·.2)) = true) : SrtOk K H (zs.map zV) := by
  unfold srtOk at s
  simp only [Bool.and_eq_true, decide_eq_true_eq] at s
  obtain ⟨⟨⟨⟨s1, s2⟩, s3⟩, s4⟩, s5⟩ := s
  refine ⟨fun p hp => ?_, fun d hd d' hd' => ?_, fun p hp => ?_, fun p hp => ?_, by simpa using s5⟩
  · obtain ⟨z, hz, rfl⟩ := List.mem_map.mp hp
    exact Rep.dp hF (h z hz) (pls_mem s1 _ (List.mem_map_of_mem hz))
  · obtain ⟨p, hp, rfl⟩ := List.mem_map.mp hd
    obtain ⟨z, hz, rfl⟩ := List.mem_map.mp hp
    obtain ⟨p', hp', rfl⟩ := List.mem_map.mp hd'
    obtain ⟨z', hz', rfl⟩ := List.mem_map.mp hp'
    exact List.all_eq_true.mp (List.all_eq_true.mp s2 _ (List.mem_map_of_mem hz)) _ (List.mem_map_of_mem hz')
  · obtain ⟨z, hz, rfl⟩ := List.mem_map.mp hp
    have q := List.all_eq_true.mp s3 _ (List.mem_map_of_mem hz)
    have p := pls_mem s1 _ (List.mem_map_of_mem hz)
    intro e
    obtain ⟨v, d⟩ := z
    cases d <;> first | (simp [nnD] at q; done) | (simp [D.py] at e; done) | (simp [D.pl] at p; done)
  · obtain ⟨z, hz, rfl⟩ := List.mem_map.mp hp
    exact depthAll_mem s4 _ (List.mem_map_of_mem hz)
mutual
theorem py_inj : ∀ (d e : D), d.pl = true → e.pl = true → d.py = e.py → d = e
  | .non, e, _, q, h => by cases e <;> first | rfl | (simp [D.py] at h; done) | (simp [D.pl] at q; done)
  | .bl b, e, _, q, h => by cases e <;> first | (simp only [D.py, PyData.bool.injEq] at h; rw [h]) | (simp [D.py] at h; done) | (simp [D.pl] at q; done)
  | .int i, e, _, q, h => by cases e <;> first | (simp only [D.py, PyData.int.injEq] at h; rw [h]) | (simp [D.py] at h; done) | (simp [D.pl] at q; done)
  | .str s, e, _, q, h => by cases e <;> first | (simp only [D.py, PyData.str.injEq] at h; rw [h]) | (simp [D.py] at h; done) | (simp [D.pl] at q; done)
  | .tup xs, e, p, q, h => by
    cases e with
    | tup ys =>
      have h : PyData.tuple (D.pys xs) = PyData.tuple (D.pys ys) := h
      injection h with h
      rw [pys_inj xs ys p q h]
    | lst ys => exact absurd h (by simp [D.py])
    | non => exact absurd h (by simp [D.py])
    | bl _ => exact absurd h (by simp [D.py])
    | int _ => exact absurd h (by simp [D.py])
    | str _ => exact absurd h (by simp [D.py])
    | dct _ _ => exact absurd q (by simp [D.pl])
    | itv _ _ => exact absurd q (by simp [D.pl])
    | set _ => exact absurd q (by simp [D.pl])
    | obj _ => exact absurd q (by simp [D.pl])
    | fn _ => exact absurd q (by simp [D.pl])
  | .lst xs, e, p, q, h => by
    cases e with
    | lst ys =>
      have h : PyData.list (D.pys xs) = PyData.list (D.pys ys) := h
      injection h with h
      rw [pys_inj xs ys p q h]
    | tup ys => exact absurd h (by simp [D.py])
    | non => exact absurd h (by simp [D.py])
    | bl _ => exact absurd h (by simp [D.py])
    | int _ => exact absurd h (by simp [D.py])
    | str _ => exact absurd h (by simp [D.py])
    | dct _ _ => exact absurd q (by simp [D.pl])
    | itv _ _ => exact absurd q (by simp [D.pl])
    | set _ => exact absurd q (by simp [D.pl])
    | obj _ => exact absurd q (by simp [D.pl])
    | fn _ => exact absurd q (by simp [D.pl])
  | .dct _ _, _, p, _, _ => nomatch p
  | .itv _ _, _, p, _, _ => nomatch p
  | .set _, _, p, _, _ => nomatch p
  | .obj _, _, p, _, _ => nomatch p
  | .fn _, _, p, _, _ => nomatch p
theorem pys_inj : ∀ (ds es : List D), D.pls ds = true → D.pls es = true → D.pys ds = D.pys es → ds = es
  | [], [], _, _, _ => rfl
  | [], _ :: _, _, _, h => nomatch h
  | _ :: _, [], _, _, h => nomatch h
  | d :: ds, e :: es, p, q, h => by
    have p := Bool.and_eq_true_iff.mp (show (d.pl && D.pls ds) = true from p)
    have q := Bool.and_eq_true_iff.mp (show (e.pl && D.pls es) = true from q)
    have h : d.py :: D.pys ds = e.py :: D.pys es := h
    injection h with h1 h2
    rw [py_inj d e p.1 q.1 h1, pys_inj ds es p.2 q.2 h2]
end
/-- sorted hangs on the items alone -/
theorem srtD_perm {xs ys : List D} (p : xs.Perm ys) (s : srtOk ys = true) : xs.mergeSort leD = ys.mergeSort leD := by
  unfold srtOk at s
  simp only [Bool.and_eq_true, decide_eq_true_eq] at s
  obtain ⟨⟨⟨⟨s1, s2⟩, _⟩, _⟩, _⟩ := s
  refine srt_perm p (fun d hd d' hd' => ?_) fun x hx y hy e => py_inj x y (pls_mem s1 x hx) (pls_mem s1 y hy) e
  obtain ⟨x, hx, rfl⟩ := List.mem_map.mp hd
  obtain ⟨y, hy, rfl⟩ := List.mem_map.mp hd'
  exact List.all_eq_true.mp (List.all_eq_true.mp s2 x hx) y hy
theorem srtOk_perm {xs ys : List D} (p : xs.Perm ys) (s : srtOk ys = true) : srtOk xs = true := by
  unfold srtOk at s ⊢
  simp only [Bool.and_eq_true, decide_eq_true_eq] at s ⊢
  obtain ⟨⟨⟨⟨s1, s2⟩, s3⟩, s4⟩, s5⟩ := s
  have mem : ∀ x, x ∈ xs → x ∈ ys := fun x hx => p.mem_iff.mp hx
  have pl : ∀ l : List D, (∀ d ∈ l, d.pl = true) → D.pls l = true := by
    intro l
    induction l with
    | nil => intro _; rfl
    | cons d l ih => intro h; show (d.pl && D.pls l) = true; rw [h d List.mem_cons_self, ih fun e he => h e (List.mem_cons_of_mem _ he)]; rfl
  have dp : ∀ l : List D, (∀ d ∈ l, d.py.depth ≤ 100) → PyData.depthAll (D.pys l) ≤ 100 := by
    intro l
    induction l with
    | nil => intro _; simp [D.pys, PyData.depthAll]
    | cons d l ih =>
      intro h
      have h1 := h d List.mem_cons_self
      have h2 := ih fun e he => h e (List.mem_cons_of_mem _ he)
      simp only [D.pys, PyData.depthAll]
      omega
  refine ⟨⟨⟨⟨pl xs fun d hd => pls_mem s1 d (mem d hd), ?_⟩, ?_⟩, dp xs fun d hd => depthAll_mem s4 d (mem d hd)⟩, by rw [p.length_eq]; exact s5⟩
  · exact List.all_eq_true.mpr fun x hx => List.all_eq_true.mpr fun y hy => List.all_eq_true.mp (List.all_eq_true.mp s2 x (mem x hx)) y (mem y hy)
  · exact List.all_eq_true.mpr fun x hx => List.all_eq_true.mp s3 x (mem x hx)
/-- members picked from items -/
theorem pick_zs {K : Kx} {F : Hp} {io : List Addr} {zs : List (V × D)} (h : ZOk K F io zs) : ∀ {L : List Kv}, (∀ p ∈ L, ∃ z ∈ zs, p.1 = z.1 ∧ nkD z.2 = some p.2) →
    ∃ es : List D, Reps K F io (L.map (·.1)) es ∧ es.map nkD = L.map (fun p => some p.2) ∧ ∀ e ∈ es, e ∈ zs.map (·.2)
  | [], _ => ⟨[], .nil, rfl, fun p hp => by cases hp⟩
  | p :: L, hL => by
    obtain ⟨es, h1, h2, h3⟩ := pick_zs h fun q hq => hL q (List.mem_cons_of_mem _ hq)
    obtain ⟨z, z1, z2, z3⟩ := hL p List.mem_cons_self
    refine ⟨z.2 :: es, ?_, by rw [List.map_cons, List.map_cons, h2, z3], fun e he => ?_⟩
    · show Reps K F io (p.1 :: L.map (·.1)) (z.2 :: es)
      rw [z2]
      exact .cons (h z z1) h1
    · rcases List.mem_cons.mp he with e0 | e0
      · rw [e0]; exact List.mem_map_of_mem z1
      · exact h3 e e0
theorem nodup_up {α β : Type} {f : α → β} {l : List α} (h : (l.map f).Nodup) : l.Nodup := List.Pairwise.of_map f (fun _ _ hne e => hne (congrArg f e)) h
/-- the same keys: the same, in some order -/
theorem perm_ded {es ds : List D} (nd : (es.map nkD).Nodup) (sub : ∀ e ∈ es, e ∈ ds) (all : ∀ d ∈ ds, nkD d ∈ es.map nkD) (key : ∀ d ∈ ds, ∃ k, nkD d = some k) : es.Perm (dedD ds) := by
  refine (List.perm_ext_iff_of_nodup (nodup_up nd) (nodup_up (ded_nd ds))).mpr fun x => ⟨fun hx => ?_, fun hx => ?_⟩
  · obtain ⟨y, y1, y2⟩ := ded_all (sub x hx)
    obtain ⟨k, hk⟩ := key x (sub x hx)
    rw [nk_inj x y k hk (by rw [y2, hk])]
    exact y1
  · obtain ⟨k, hk⟩ := key x (ded_sub hx)
    obtain ⟨y, y1, y2⟩ := List.mem_map.mp (all x (ded_sub hx))
    rw [nk_inj x y k hk (by rw [y2, hk])]
    exact y1
/-- how a built-in of one argument is called -/
def B1.nm : B1 → Str
  | .len => "len"
  | .abs => "abs"
  | .sum => "sum"
  | .repr => "repr"
  | .list => "list"
  | .tuple => "tuple"
  | .all => "all"
  | .any => "any"
  | .int => "int"
  | .str => "str"
  | .set => "set"
  | .sorted => "sorted"
  | .dict => "dict"
def B1.fv : B1 → Value
  | .len => .builtin "len"
  | .abs => .builtin "abs"
  | .sum => .builtin "sum"
  | .repr => .builtin "repr"
  | .list => .type "list"
  | .tuple => .type "tuple"
  | .all => .builtin "all"
  | .any => .builtin "any"
  | .int => .type "int"
  | .str => .type "str"
  | .set => .type "set"
  | .sorted => .builtin "sorted"
  | .dict => .type "dict"
theorem B1.boot (f : B1) : bootBuiltins f.nm = some f.fv := by cases f <;> decide +kernel
theorem B1.n1 (f : B1) : f.nm ≠ "__name__" := by cases f <;> decide
theorem B1.n2 (f : B1) : (f.nm == ("__debug__" : Str)) = false := by cases f <;> decide
section
variable {X : Cx}
theorem repr_D (hg : X.A.guards = some []) (hu : X.A.units + 200 < cLine) : CallR X (.builtin "repr") (rWb X.kx (b1D .repr)) := by
  intro pins s σ H xs us Q I r h
  obtain ⟨x, rfl, W, dx, d, rfl, ok, qx, e, k⟩ := h
  obtain ⟨h1, h2⟩ := if_some (show (if reprOk dx = true then some (D.str dx.py.shown) else none) = some d from e)
  subst h2
  unfold reprOk at h1
  simp only [Bool.and_eq_true, decide_eq_true_eq] at h1
  obtain ⟨⟨⟨p1, p2⟩, p3⟩, p4⟩ := h1
  obtain ⟨u, rfl, rx⟩ := vals1 r
  have fin : ∀ (h' : Heap) (t : Tok) tk, (∀ b o, s.heap.get? b = some o → h'.get? b = some o) → L2.EP X pins σ Q (.str dx.py.shown t) { s with heap := h', toks := tk } := fun h' t tk hk =>
    ⟨.str _, W.H, I.kept hk, ⟨t, rfl⟩, aft_here ok k (.str _)⟩
  have here : ∀ (t : Tok) tk, L2.EP X pins σ Q (.str dx.py.shown t) { s with toks := tk } := fun t tk => ⟨.str _, W.H, I.tok tk, ⟨t, rfl⟩, aft_here ok k (.str _)⟩
  have dp := qx.dp ok p1
  have big : ∀ a, u = .ref a → wpAny (model X.prog X.w) X.A (call (.builtin "repr") [u]) (L2.EP X pins σ Q) X.xe s := fun a hua => by
    obtain ⟨as, rd⟩ := Dp.reads I _ _ _ dp rx
    subst hua
    exact repr_of_reads' rd p2 (fun z => by rw [noDict_py] at z; cases z) hg (by omega) (fun _ _ e => e) (fun h' t tk hk => fin h' t tk hk) p4
  cases qx with
  | non => cases rx; exact PySem.P.repr_of_none (here _ _)
  | bl b => cases rx; exact PySem.P.repr_of_bool (by cases b <;> exact here _ _)
  | int i =>
    obtain ⟨t, rfl⟩ := rx
    exact PySem.P.repr_of_int (of_decide_eq_true p2) (here _ _)
  | str z =>
    obtain ⟨t, rfl⟩ := rx
    exact PySem.P.repr_of_str (here _ _) p4
  | tup _ _ _ => exact big _ rx
  | lst _ _ _ => exact big _ rx
  | obj _ => exact nomatch p1
  | set _ _ _ _ => exact nomatch p1
  | dct _ _ _ _ _ => exact nomatch p1
  | itv _ _ _ _ _ _ => exact nomatch p1
theorem setM_ok {ds ys : List D} (h : setD ds = some ys) : ∃ m, ds.all (keyM m) = true ∧ (dedD ds).length ≤ capK m ∧ ys = dedD ds := by
  unfold setD setM at h
  obtain ⟨h1, h2⟩ := if_some h
  rw [Bool.or_eq_true] at h1
  rcases h1 with z | z
  · have z := Bool.and_eq_true_iff.mp z
    exact ⟨true, z.1, of_decide_eq_true z.2, h2.symm⟩
  · have z := Bool.and_eq_true_iff.mp z
    exact ⟨false, z.1, of_decide_eq_true z.2, h2.symm⟩
/-- the keys of data -/
theorem keys_of {m : Bool} : ∀ {zs : List (V × D)}, (zs.map (·.2)).all (keyM m) = true → ∃ ks : List Kv, ks.map (·.1) = zs.map (·.1) ∧ (∀ p ∈ ks, ∃ z ∈ zs, p.1 = z.1 ∧ nkD z.2 = some p.2) ∧ ks.map (fun p => some p.2) = zs.map fun z => nkD z.2
  | [], _ => ⟨[], rfl, (fun p hp => by cases hp), rfl⟩
  | z :: zs, h => by
    have h := Bool.and_eq_true_iff.mp (show (keyM m z.2 && (zs.map (·.2)).all (keyM m)) = true from h)
    obtain ⟨ks, h1, h2, h3⟩ := keys_of h.2
    obtain ⟨k, hk, _⟩ := keyM_nk h.1
    refine ⟨(z.1, k) :: ks, by rw [List.map_cons, List.map_cons, h1], fun p hp => ?_, by rw [List.map_cons, List.map_cons, h3, hk]⟩
    rcases List.mem_cons.mp hp with e | e
    · rw [e]; exact ⟨z, List.mem_cons_self, rfl, hk⟩
    · obtain ⟨y, y1, y2⟩ := h2 p e
      exact ⟨y, List.mem_cons_of_mem _ y1, y2⟩
theorem nd_some {α : Type} {l : List α} (h : l.Nodup) : (l.map some).Nodup := List.pairwise_map.mpr (List.Pairwise.imp (fun ne e => ne (Option.some.inj e)) h)
theorem fit_keys {m : Bool} {zs : List (V × D)} {ks : List Kv} (h3 : ks.map (fun p => some p.2) = zs.map fun z => nkD z.2) (hc : (dedD (zs.map (·.2))).length ≤ capK m) : FitV m ks := by
  intro l hl hs
  have : (l.map some).length ≤ ((dedD (zs.map (·.2))).map nkD).length := nd_len _ _ (nd_some hl) fun x hx => by
    obtain ⟨k, k1, rfl⟩ := List.mem_map.mp hx
    obtain ⟨p, p1, p2⟩ := List.mem_map.mp (hs k k1)
    have : some p.2 ∈ zs.map fun z => nkD z.2 := by rw [← h3]; exact List.mem_map.mpr ⟨p, p1, rfl⟩
    obtain ⟨z, z1, z2⟩ := List.mem_map.mp this
    obtain ⟨y, y1, y2⟩ := ded_all (List.mem_map_of_mem (f := fun z : V × D => z.2) z1)
    exact List.mem_map.mpr ⟨y, y1, by rw [y2, z2, p2]⟩
  rw [List.length_map, List.length_map] at this
  exact Nat.le_trans this hc
/-- the new set, as data -/
theorem rep_set {K : Kx} {F : Hp} {io : List Addr} {zs : List (V × D)} {ks L : List Kv} {a : Addr} {m : Bool} (h : ZOk K F io zs) (hm : (zs.map (·.2)).all (keyM m) = true) (h2 : ∀ p ∈ ks, ∃ z ∈ zs, p.1 = z.1 ∧ nkD z.2 = some p.2)
    (h3 : ks.map (fun p => some p.2) = zs.map fun z => nkD z.2) (nd : (L.map (·.2)).Nodup) (sub : ∀ p ∈ L, p ∈ ks) (all : ∀ p ∈ ks, p.2 ∈ L.map (·.2)) (hF : F a = some (SetV K.wo m a L)) : Rep K F io (.ref a) (.set (dedD (zs.map (·.2)))) := by
  obtain ⟨es, e1, e2, e3⟩ := pick_zs h fun p hp => h2 p (sub p hp)
  refine .set hF e1 e2 (perm_ded ?_ e3 (fun d hd => ?_) fun d hd => ?_)
  · rw [e2, show L.map (fun p => some p.2) = (L.map (·.2)).map some by rw [List.map_map]; rfl]
    exact nd_some nd
  · obtain ⟨z, z1, rfl⟩ := List.mem_map.mp hd
    have : nkD z.2 ∈ ks.map fun p => some p.2 := by rw [h3]; exact List.mem_map.mpr ⟨z, z1, rfl⟩
    obtain ⟨p, p1, p2⟩ := List.mem_map.mp this
    obtain ⟨q, q1, q2⟩ := List.mem_map.mp (all p p1)
    rw [e2, ← p2]
    exact List.mem_map.mpr ⟨q, q1, by rw [q2]⟩
  · obtain ⟨k, hk, _⟩ := keyM_nk (List.all_eq_true.mp hm d hd)
    exact ⟨k, hk⟩
theorem set_D (hc : X.calm = true) (hu : X.A.units + 200 < cLine) : CallR X (.type "set") (rWb X.kx (b1D .set)) := by
  intro pins s σ H xs us Q I r h
  obtain ⟨x, rfl, W, dx, d, rfl, ok, qx, e, k⟩ := h
  cases qx with
  | @lst a vs ds hx lx rx =>
    obtain ⟨ys, h1, h2⟩ := Option.map_eq_some_iff.mp (show (setD ds).map D.set = some d from e)
    subst h2
    obtain ⟨m, m1, m2, rfl⟩ := setM_ok h1
    obtain ⟨zs, z1, rfl, rfl⟩ := zip_ok rx
    obtain ⟨ks, k1, k2, k3⟩ := keys_of m1
    refine cr_setK hc (by omega) pins s σ _ _ us Q I r ⟨a, m, ks, rfl, by rw [k1]; exact hx.sq ok, fun p hp => ?_, fit_keys k3 m2, fun p L hp nd sub all => ?_⟩
    · obtain ⟨z, y1, y2, y3⟩ := k2 p hp
      have := kv_rep (m := m) ok.ex (z1 z y1) (List.all_eq_true.mp m1 _ (List.mem_map_of_mem y1)) y3
      rw [← y2] at this
      exact this
    · have l1 := le_fr ok hp (o := SetV X.w m p L)
      exact aft_new ok k hp (rep_set (fun z hz => l1.rp (z1 z hz)) m1 k2 k3 nd sub all upd_same)
  | _ => cases e
theorem zs_data : ∀ {L : List Kv} {zs : List (V × D)}, L.map (·.1) = zs.map (·.1) → (zs.map (·.2)).map nkD = L.map (fun p => some p.2) → zs.map zV = L.map fun p => (p.1, p.2.data)
  | [], [], _, _ => rfl
  | [], _ :: _, h, _ => nomatch h
  | _ :: _, [], h, _ => nomatch h
  | p :: L, z :: zs, h, k => by
    simp only [List.map_cons, List.cons.injEq] at h k ⊢
    refine ⟨?_, zs_data h.2 k.2⟩
    rw [h.1]
    show (z.1, z.2.py) = _
    rw [(nk_py _ _ k.1).1]
theorem obind0 {α β : Type} {o : Option α} {f : α → Option β} {b : β} (h : o.bind f = some b) : ∃ a, o = some a ∧ f a = some b := by
  cases o with
  | none => cases h
  | some a => exact ⟨a, rfl, h⟩
/-! ### dicts, their pairs -/
/-- a dict's pairs come to lie there -/
def Wd.its (W : Wd) (H2 : Hp) (as : List Addr) : Wd := { W with F := fun b => if b ∈ as then H2 b else W.F b, H := H2 }
section
variable {K : Kx} {W : Wd} {H2 : Hp} {L : List Ev3} {as : List Addr}
theorem its_ff (ok : W.Ok K) (h : ItemsAt W.H H2 L as) : ∀ b o, W.F b = some o → (W.its H2 as).F b = some o := fun b o e => by
  have n : b ∉ as := fun z => by have := h.new b z; rw [ok.ex b o e] at this; cases this
  show (if b ∈ as then H2 b else W.F b) = some o
  rw [if_neg n]; exact e
theorem its_ok (ok : W.Ok K) (h : ItemsAt W.H H2 L as) : (W.its H2 as).Ok K := by
  refine ⟨fun b o e => ?_, fun n u e => ?_, ok.le, ok.nd⟩
  · have e : (if b ∈ as then H2 b else W.F b) = some o := e
    show H2 b = some o
    by_cases z : b ∈ as
    · rw [if_pos z] at e; exact e
    · rw [if_neg z] at e
      rw [h.off b z]; exact ok.ex b o e
  · obtain ⟨b, ho, h1, h2, h3, h4⟩ := ok.ob n u e
    have n : b ∉ as := fun z => by have := h.new b z; rw [h2] at this; cases this
    refine ⟨b, ho, h1, ?_, ?_, h4.mono (its_ff ok h) fun _ _ h => h⟩
    · show H2 b = some ho
      rw [h.off b n]; exact h2
    · show (if b ∈ as then H2 b else W.F b) = none
      rw [if_neg n]; exact h3
theorem its_le (ok : W.Ok K) (h : ItemsAt W.H H2 L as) : Le W (W.its H2 as) := by
  have off : ∀ b o, W.H b = some o → b ∉ as := fun b o e z => by have := h.new b z; rw [e] at this; cases this
  refine ⟨its_ff ok h, fun b o e _ => ?_, fun b o e n => ?_, fun b e => ?_, [], by simp [Wd.its], fun _ z => nomatch z⟩
  · show H2 b = some o
    rw [h.off b (off b o e)]; exact e
  · show (if b ∈ as then H2 b else W.F b) = none
    rw [if_neg (off b o e)]; exact n
  · have e : H2 b = none := e
    by_cases z : b ∈ as
    · exact h.new b z
    · rw [h.off b z] at e; exact e
theorem its_rps (ok : W.Ok K) (h : ItemsAt W.H H2 L as) {ks vs : List D} (r : W.Rps K (L.map (·.1)) ks) (q : W.Rps K (L.map (·.2.2)) vs) : (W.its H2 as).Rps K (as.map V.ref) (itemsD ks vs) := by
  have l := its_le ok h
  have key : ∀ (as' : List Addr) (L' : List Ev3) (ks' vs' : List D), as'.length = L'.length → W.Rps K (L'.map (·.1)) ks' → W.Rps K (L'.map (·.2.2)) vs' →
      (∀ (j : Nat) b p, as'[j]? = some b → L'[j]? = some p → b ∈ as ∧ ∃ o, o.dict = none ∧ H2 b = some (.frz o (.tup [p.1, p.2.2]))) → (W.its H2 as).Rps K (as'.map V.ref) (itemsD ks' vs') := by
    intro as'
    induction as' with
    | nil =>
      intro L' ks' vs' hl r q _
      cases L' with
      | nil => cases r; cases q; exact .nil
      | cons => cases hl
    | cons b as' ih =>
      intro L' ks' vs' hl r q hat
      cases L' with
      | nil => cases hl
      | cons p L' =>
        cases r with
        | cons r1 r2 =>
          cases q with
          | cons q1 q2 =>
            obtain ⟨hb, o, o1, o2⟩ := hat 0 b p rfl rfl
            refine .cons (.tup (.inl ⟨o, o1, ?_⟩) (by show 2 ≤ sizeLine; decide) (.cons (l.rp r1) (.cons (l.rp q1) .nil))) (ih L' _ _ (by simpa using hl) r2 q2 fun j c p' h1 h2 => hat (j + 1) c p' (by simpa using h1) (by simpa using h2))
            show (if b ∈ as then H2 b else W.F b) = _
            rw [if_pos hb]; exact o2
  exact key as L ks vs h.len r q fun j b p h1 h2 => ⟨List.mem_of_getElem? h1, h.at_ j b p h1 h2⟩
theorem aft_new2 {W2 : Wd} {d : D} {Q : VK} (ok2 : W2.Ok K) (l : Le W W2) (es : W2.S = W.S) (h : Aft K W W.S fun W' => ∀ v, W'.Rp K v d → Q v W'.H) {p : Addr} {o : HO} (hp : W2.H p = none) (r : (W2.fr p o).Rp K (.ref p) d) : Q (.ref p) (upd W2.H p o) :=
  h (W2.fr p o) (l.trans (le_fr ok2 hp)) (ok_fr ok2 hp) es _ r
/-- one entry put -/
theorem put_rep {F : Hp} {io : List Addr} {k : NestedKey} {y v : V} {x d : D} (hx : nkD x = some k) (ry : Rep K F io y x) (rv : Rep K F io v d) {L : List Ev3} {ks vs : List D} (r : Reps K F io (L.map (·.1)) ks) (q : Reps K F io (L.map (·.2.2)) vs) (ek : ks.map nkD = L.map fun p => some p.2.1) :
    Reps K F io ((putN L y k v).map (·.1)) (putKs ks x) ∧ Reps K F io ((putN L y k v).map (·.2.2)) (putVs ks vs x d) ∧ (putKs ks x).map nkD = (putN L y k v).map fun p => some p.2.1 := by
  have hv := has_val hx ek
  unfold putN putKs putVs
  cases hb : hasD ks x with
  | false =>
    rw [hb] at hv
    rw [hv, if_neg (by decide), if_neg (by decide), if_neg (by decide)]
    refine ⟨?_, ?_, ?_⟩
    · rw [List.map_append]; exact r.app (.cons ry .nil)
    · rw [List.map_append]; exact q.app (.cons rv .nil)
    · rw [List.map_append, List.map_append, ek]
      show _ ++ [nkD x] = _ ++ [some k]
      rw [hx]
  | true =>
    rw [hb] at hv
    rw [hv, if_pos rfl, if_pos rfl, if_pos rfl]
    clear hv hb
    simp only [hx]
    induction L generalizing ks vs with
    | nil =>
      cases r
      cases q
      exact ⟨.nil, .nil, rfl⟩
    | cons p L ih =>
      cases r with
      | cons r1 r2 =>
        cases q with
        | cons q1 q2 =>
          simp only [List.map_cons, List.cons.injEq] at ek
          obtain ⟨i1, i2, i3⟩ := ih r2 q2 ek.2
          simp only [List.map_cons, List.zipWith_cons_cons]
          rw [ek.1]
          by_cases z : p.2.1 = k
          · rw [if_pos z, if_pos (by rw [z])]
            exact ⟨.cons r1 i1, .cons rv i2, by rw [i3]⟩
          · rw [if_neg z, if_neg fun w => z (Option.some.inj w)]
            exact ⟨.cons r1 i1, .cons q1 i2, by rw [i3]⟩
theorem puts_rep {F : Hp} {io : List Addr} {ps : List Ev3} : ∀ {xs ds : List D} {L : List Ev3} {ks vs : List D}, Reps K F io (ps.map (·.1)) xs → Reps K F io (ps.map (·.2.2)) ds → xs.map nkD = ps.map (fun p => some p.2.1) →
    Reps K F io (L.map (·.1)) ks → Reps K F io (L.map (·.2.2)) vs → ks.map nkD = L.map (fun p => some p.2.1) →
    Reps K F io ((putAll L ps).map (·.1)) (putsD ks vs xs ds).1 ∧ Reps K F io ((putAll L ps).map (·.2.2)) (putsD ks vs xs ds).2 ∧ (putsD ks vs xs ds).1.map nkD = (putAll L ps).map fun p => some p.2.1 := by
  induction ps with
  | nil =>
    intro xs ds L ks vs r q _ a b c
    cases r
    cases q
    exact ⟨a, b, c⟩
  | cons p ps ih =>
    intro xs ds L ks vs r q e a b c
    cases r with
    | cons r1 r2 =>
      cases q with
      | cons q1 q2 =>
        simp only [List.map_cons, List.cons.injEq] at e
        obtain ⟨a', b', c'⟩ := put_rep e.1 r1 q1 a b c
        have z := ih r2 q2 e.2 a' b' c'
        exact z
/-- pairs, as a list or tuple has them -/
theorem pairs_D (ok : W.Ok K) : ∀ {xs : List D} {us : List V} {kd vd : List D}, W.Rps K us xs → pairsD xs = some (kd, vd) → (∀ x ∈ kd, ∃ k, nkD x = some k) →
    ∃ (bs : List Addr) (ps : List Ev3), us = bs.map V.ref ∧ bs.length = ps.length ∧ (∀ (j : Nat) b p, bs[j]? = some b → ps[j]? = some p → SqT K.fr W.H b [p.1, p.2.2]) ∧ W.Rps K (ps.map (·.1)) kd ∧ W.Rps K (ps.map (·.2.2)) vd ∧ kd.map nkD = ps.map fun p => some p.2.1
  | [], _, _, _, r, e, _ => by
    cases r
    cases e
    exact ⟨[], [], rfl, rfl, fun j b p h => by simp at h, .nil, .nil, rfl⟩
  | x :: xs, us, kd, vd, r, e, hk => by
    match x, e with
    | .tup [k, v], e =>
      obtain ⟨⟨kd', vd'⟩, e1, e2⟩ := Option.map_eq_some_iff.mp (show (pairsD xs).map (fun p => (k :: p.1, v :: p.2)) = some (kd, vd) from e)
      cases e2
      cases r with
      | cons r1 r2 =>
        cases r1 with
        | @tup a ws _ ht _ rr =>
          cases rr with
          | cons p1 rr =>
            cases rr with
            | cons p2 rr =>
              cases rr
              obtain ⟨bs, ps, h1, h2, h3, h4, h5, h6⟩ := pairs_D ok r2 e1 fun y hy => hk y (List.mem_cons_of_mem _ hy)
              obtain ⟨kk, hkk⟩ := hk k List.mem_cons_self
              refine ⟨a :: bs, (_, kk, _) :: ps, by rw [List.map_cons, h1], by rw [List.length_cons, List.length_cons, h2], fun j b p hb hp => ?_, .cons p1 h4, .cons p2 h5, by rw [List.map_cons, List.map_cons, h6, hkk]⟩
              cases j with
              | zero =>
                simp at hb hp
                subst hb hp
                exact ok.sqT ht
              | succ j => exact h3 j b p (by simpa using hb) (by simpa using hp)
theorem mkD_ok {kd vd : List D} {d : D} (h : mkD kd vd = some d) : ∃ m, kd.all (keyM m) = true ∧ d = .dct (putsD [] [] kd vd).1 (putsD [] [] kd vd).2 := by
  obtain ⟨h1, h2⟩ := if_some h
  obtain ⟨m, hm⟩ := dk_cases h1
  exact ⟨m, hm, h2.symm⟩
/-- a new dict, as data -/
theorem new_mk {kd vd : List D} {ps : List Ev3} {d : D} {Q : VK} (ok : W.Ok K) (r : W.Rps K (ps.map (·.1)) kd) (q : W.Rps K (ps.map (·.2.2)) vd) (e : kd.map nkD = ps.map fun p => some p.2.1) (hz : ps.length ≤ sizeLine) (hd : d = .dct (putsD [] [] kd vd).1 (putsD [] [] kd vd).2)
    (k : Aft K W W.S fun W' => ∀ v, W'.Rp K v d → Q v W'.H) : NewD K.wo W.H Q (putAll [] ps) := by
  refine .inr fun p o hp => ?_
  subst hd
  obtain ⟨a, b, c⟩ := puts_rep (L := []) (ks := []) (vs := []) r q e .nil .nil rfl
  have l := le_fr ok hp (o := .frz o (DcV K.wo p (putAll [] ps)))
  refine aft_new ok k hp (.dct fr_at ?_ (l.rps a) (l.rps b) c)
  have := putAll_len (ps := ps) (ac := [])
  rw [List.length_nil, Nat.zero_add] at this
  omega
end
theorem sorted_D (hc : X.calm = true) (hu : X.A.units + 200 < cLine) : CallR X (.builtin "sorted") (rWb X.kx (b1D .sorted)) := by
  intro pins s σ H xs us Q I r h
  obtain ⟨x, rfl, W, dx, d, rfl, ok, qx, e, k⟩ := h
  have new : ∀ {zs : List (V × D)} {p : Addr}, ZOk X.kx W.F W.io zs → W.H p = none → zs.length ≤ sizeLine → d = .lst ((zs.map (·.2)).mergeSort leD) → Q (.ref p) (upd W.H p (.lst (((zs.map zV).mergeSort leV).map (·.1)))) := fun {zs p} h hp hz hd => by
    subst hd
    exact aft_new ok k hp (rp_newL ok hp (by rw [List.length_map, List.length_mergeSort, List.length_map]; exact hz) (srt_reps h))
  have fit : ∀ {ds : List D}, srtOk ds = true → ds.length ≤ sizeLine := fun {ds} s => by
    unfold srtOk at s
    simp only [Bool.and_eq_true, decide_eq_true_eq] at s
    exact s.2
  cases qx with
  | @lst a vs ds hx lx rx =>
    obtain ⟨ys, h1, h2⟩ := Option.map_eq_some_iff.mp (show (srtD ds).map D.lst = some d from e)
    obtain ⟨s1, s2⟩ := if_some h1
    obtain ⟨zs, z1, rfl, rfl⟩ := zip_ok rx
    refine cr_srtK hc hu pins s σ _ _ us Q I r ⟨a, zs.map zV, rfl, srt_ask ok.ex z1 s1, .inl ⟨.inl ?_, fun p hp => new z1 hp (by simpa using fit s1) (by rw [← h2, ← s2])⟩⟩
    rw [List.map_map]
    exact hx.sq ok
  | @tup a vs ds hx lx rx =>
    obtain ⟨ys, h1, h2⟩ := Option.map_eq_some_iff.mp (show (srtD ds).map D.lst = some d from e)
    obtain ⟨s1, s2⟩ := if_some h1
    obtain ⟨zs, z1, rfl, rfl⟩ := zip_ok rx
    refine cr_srtK hc hu pins s σ _ _ us Q I r ⟨a, zs.map zV, rfl, srt_ask ok.ex z1 s1, .inl ⟨.inr ?_, fun p hp => new z1 hp (by simpa using fit s1) (by rw [← h2, ← s2])⟩⟩
    rw [List.map_map]
    exact ok.sqT hx
  | @set a m L es ds hx rx ke pe =>
    obtain ⟨ys, h1, h2⟩ := Option.map_eq_some_iff.mp (show (srtD ds).map D.lst = some d from e)
    obtain ⟨s1, s2⟩ := if_some h1
    obtain ⟨zs, z1, z2, rfl⟩ := zip_ok rx
    have s3 := srtOk_perm pe s1
    have eL := zs_data z2 ke
    refine cr_srtK hc hu pins s σ _ _ us Q I r ⟨a, zs.map zV, rfl, srt_ask ok.ex z1 s3, .inr ⟨m, L, ok.ex _ _ hx, eL, fun cs p pm hp => ?_⟩⟩
    obtain ⟨zs', p1, rfl⟩ := perm_up pm
    refine new (fun z hz => z1 z (p1.mem_iff.mp hz)) hp (by rw [p1.length_eq]; simpa using fit s3) ?_
    rw [← h2, ← s2, srtD_perm ((p1.map (·.2)).trans pe) s1]
  | @dct a L ks vs hx lx rx ry ek =>
    obtain ⟨ys, h1, h2⟩ := Option.map_eq_some_iff.mp (show (srtD ks).map D.lst = some d from e)
    obtain ⟨s1, s2⟩ := if_some h1
    obtain ⟨zs, z1, z2, z3⟩ := zip_ok rx
    subst z3
    have eL : zs.map zV = L.map fun p => ((p.1, p.2.1.data) : Vd) := by
      clear new fit h1 h2 s1 s2 lx ry rx k z1 hx e
      induction L generalizing zs with
      | nil =>
        cases zs with
        | nil => rfl
        | cons => cases z2
      | cons p L ih =>
        cases zs with
        | nil => cases z2
        | cons z zs =>
          simp only [List.map_cons, List.cons.injEq] at z2 ek ⊢
          refine ⟨?_, ih zs z2.2 ek.2⟩
          rw [z2.1]
          show (z.1, z.2.py) = _
          rw [(nk_py _ _ ek.1).1]
    refine cr_srtKy hc hu pins s σ _ _ us Q I r ⟨a, L, rfl, hx.at_ ok, by rw [← eL]; exact srt_ask ok.ex z1 s1, fun p hp => ?_⟩
    rw [← eL]
    exact new z1 hp (by simpa using fit s1) (by rw [← h2, ← s2])
  | @itv v a o L ks vs hv hx lx rx ry ek =>
    obtain ⟨ys, h1, h2⟩ := Option.map_eq_some_iff.mp (show (srtD (itemsD ks vs)).map D.lst = some d from e)
    obtain ⟨s1, s2⟩ := if_some h1
    refine cr_srtIt hc hu pins s σ _ _ us Q I r ⟨v, a, L, rfl, ok.ex _ _ hv, .inr ⟨o, ok.ex _ _ hx⟩, lx, fun H2 as it => ?_⟩
    have ok2 := its_ok ok it
    obtain ⟨zs, z1, z2, z3⟩ := zip_ok (its_rps ok it rx ry)
    rw [z3] at s1
    refine ⟨zs.map zV, by rw [List.map_map]; exact z2.symm, srt_ask ok2.ex z1 s1, fun q hq => ?_⟩
    rw [← h2, ← s2, z3] at k
    exact aft_new2 ok2 (its_le ok it) rfl k hq (rp_newL ok2 hq (by rw [List.length_map, List.length_mergeSort, List.length_map]; simpa using fit s1) (srt_reps z1))
  | _ => cases e
/-- dict(..) -/
theorem dict_D (hc : X.calm = true) (hu : X.A.units + 200 < cLine) : CallR X (.type "dict") (rWb X.kx (b1D .dict)) := by
  intro pins s σ H xs us Q I r h
  obtain ⟨x, rfl, W, dx, d, rfl, ok, qx, e, k⟩ := h
  have sq : ∀ {a : Addr} {vs : List V} {ds : List Cv.D}, x = .ref a → (SqL X.K W.H a vs ∨ TuP X.K W.H a vs) → vs.length ≤ sizeLine → W.Rps X.kx vs ds → ((pairsD ds).bind fun p => mkD p.1 p.2) = some d → wpAny (model X.prog X.w) X.A (call (.type "dict") us) (L2.EP X pins σ Q) X.xe s := fun {a vs ds} ex hs lx rx e => by
    subst ex
    obtain ⟨⟨kd, vd⟩, e1, e2⟩ := obind0 e
    obtain ⟨m, m1, m2⟩ := mkD_ok e2
    obtain ⟨bs, ps, rfl, h2, h3, h4, h5, h6⟩ := pairs_D ok rx e1 fun y hy => by
      obtain ⟨kk, hk, _⟩ := keyM_nk (List.all_eq_true.mp m1 y hy)
      exact ⟨kk, hk⟩
    rw [List.length_map] at lx
    exact cr_dctSq hc (by omega) pins s σ _ _ us Q I r ⟨a, m, bs, ps, rfl, hs, h2, h3, keysV_D ok h4 h6 m1, new_mk ok h4 h5 h6 (by omega) m2 k⟩
  cases qx with
  | @lst a vs ds hx lx rx => exact sq rfl (.inl (hx.sq ok)) lx rx e
  | @tup a vs ds hx lx rx => exact sq rfl (.inr (hx.mono ok.ex)) lx rx e
  | @dct a L ks vs hx lx rx ry ek =>
    obtain ⟨h1, h2⟩ := if_some (show (if ks.all (keyM false) = true then some (Cv.D.dct ks vs) else none) = some d from e)
    subst h2
    refine cr_dctDc pins s σ _ _ us Q I r ⟨a, L, rfl, hx.at_ ok, keysV_D ok rx ek h1, lx, .inr fun p o hp => ?_⟩
    have l := le_fr ok hp (o := .frz o (DcV X.kx.wo p L))
    exact aft_new ok k hp (.dct fr_at lx (l.rps rx) (l.rps ry) ek)
  | _ => cases e
theorem call_b1 (hc : X.calm = true) (hg : X.A.guards = some []) (hu : X.A.units + 200 < cLine) (f : B1) : CallR X f.fv (rWb X.kx (b1D f)) := by
  cases f with
  | repr => exact repr_D hg hu
  | set => exact set_D hc hu
  | sorted => exact sorted_D hc hu
  | dict => exact dict_D hc hu
  | len =>
    intro pins s σ H xs us Q I r h
    obtain ⟨x, rfl, W, dx, d, rfl, ok, qx, e, k⟩ := h
    cases qx with
    | str z =>
      obtain ⟨h1, h2⟩ := ifp_some (show (if z.length ≤ sizeLine then some (D.int z.length) else none) = some d from e)
      subst h2
      exact call_len pins s σ _ _ us Q I r ⟨_, z.length, rfl, ⟨h1, rfl⟩, aft_here ok k (.int _)⟩
    | tup hx lx rx =>
      cases e
      rw [← rx.len] at k
      exact call_len pins s σ _ _ us Q I r ⟨_, _, rfl, .inr ⟨_, ok.sqT hx, rfl⟩, aft_here ok k (.int _)⟩
    | lst hx lx rx =>
      cases e
      rw [← rx.len] at k
      exact call_len pins s σ _ _ us Q I r ⟨_, _, rfl, .inl ⟨_, hx.sq ok, rfl⟩, aft_here ok k (.int _)⟩
    | @set a m L es ds hx rx ke pe =>
      cases e
      have len : L.length = ds.length := by rw [← pe.length_eq, ← rx.len, List.length_map]
      rw [← len] at k
      exact cr_lenK pins s σ _ _ us Q I r ⟨a, m, L, rfl, ok.ex _ _ hx, aft_here ok k (.int _)⟩
    | _ => cases e
  | abs =>
    intro pins s σ H xs us Q I r h
    obtain ⟨x, rfl, W, dx, d, rfl, ok, qx, e, k⟩ := h
    cases qx with
    | int i => cases e; exact call_abs pins s σ _ _ us Q I r ⟨i, rfl, aft_here ok k (.int _)⟩
    | _ => cases e
  | sum =>
    intro pins s σ H xs us Q I r h
    obtain ⟨x, rfl, W, dx, d, rfl, ok, qx, e, k⟩ := h
    cases qx with
    | @lst a vs ds hx lx rx =>
      obtain ⟨ns, h1, h2⟩ := Option.map_eq_some_iff.mp (show (intsD ds).map (fun ns => D.int ns.sum) = some d from e)
      subst h2
      have hv := ints_rps rx h1
      subst hv
      exact cr_sum hc pins s σ _ _ us Q I r ⟨a, ns, rfl, hx.sq ok, aft_here ok k (.int _)⟩
    | _ => cases e
  | list =>
    intro pins s σ H xs us Q I r h
    obtain ⟨x, rfl, W, dx, d, rfl, ok, qx, e, k⟩ := h
    cases qx with
    | tup hx lx rx =>
      cases e
      exact call_list_of pins s σ _ _ us Q I r ⟨_, _, rfl, .inr (ok.sqT hx), fun p hp => aft_new ok k hp (rp_newL ok hp lx rx)⟩
    | lst hx lx rx =>
      cases e
      exact call_list_of pins s σ _ _ us Q I r ⟨_, _, rfl, .inl (hx.sq ok), fun p hp => aft_new ok k hp (rp_newL ok hp lx rx)⟩
    | @dct a L ks vs hx lx rx ry ek =>
      cases e
      have ll := rx.len
      exact cr_lstKy hc pins s σ _ _ us Q I r ⟨a, L, rfl, hx.at_ ok, lx, fun p hp => aft_new ok k hp (rp_newL ok hp (by rw [List.length_map]; exact lx) rx)⟩
    | @itv v a o L ks vs hv hx lx rx ry ek =>
      cases e
      refine cr_lstIt hc pins s σ _ _ us Q I r ⟨v, a, L, rfl, ok.ex _ _ hv, .inr ⟨o, ok.ex _ _ hx⟩, lx, fun H2 as q it hq => ?_⟩
      have ok2 := its_ok ok it
      exact aft_new2 ok2 (its_le ok it) rfl k hq (rp_newL ok2 hq (by rw [List.length_map, it.len]; exact lx) (its_rps ok it rx ry))
    | _ => cases e
  | tuple =>
    intro pins s σ H xs us Q I r h
    obtain ⟨x, rfl, W, dx, d, rfl, ok, qx, e, k⟩ := h
    cases qx with
    | tup hx lx rx =>
      cases e
      exact call_tupZ pins s σ _ _ us Q I r ⟨_, _, rfl, .inr ⟨ok.sqT hx, aft_here ok k (.tup hx lx rx)⟩⟩
    | lst hx lx rx =>
      cases e
      exact call_tupZ pins s σ _ _ us Q I r ⟨_, _, rfl, .inl ⟨hx.sq ok, fun p o ho hp => aft_new ok k hp (rp_newT ok ho hp lx rx)⟩⟩
    | _ => cases e
  | all =>
    intro pins s σ H xs us Q I r h
    obtain ⟨x, rfl, W, dx, d, rfl, ok, qx, e, k⟩ := h
    cases qx with
    | @lst a vs ds hx lx rx =>
      obtain ⟨ns, h1, h2⟩ := Option.map_eq_some_iff.mp (show (blsD ds).map (fun bs => D.bl (bs.all id)) = some d from e)
      subst h2
      have hv := bls_rps rx h1
      subst hv
      exact cr_all hc pins s σ _ _ us Q I r ⟨a, ns, rfl, hx.sq ok, aft_here ok k (.bl _)⟩
    | _ => cases e
  | any =>
    intro pins s σ H xs us Q I r h
    obtain ⟨x, rfl, W, dx, d, rfl, ok, qx, e, k⟩ := h
    cases qx with
    | @lst a vs ds hx lx rx =>
      obtain ⟨ns, h1, h2⟩ := Option.map_eq_some_iff.mp (show (blsD ds).map (fun bs => D.bl (bs.any id)) = some d from e)
      subst h2
      have hv := bls_rps rx h1
      subst hv
      exact cr_any hc pins s σ _ _ us Q I r ⟨a, ns, rfl, hx.sq ok, aft_here ok k (.bl _)⟩
    | _ => cases e
  | int =>
    intro pins s σ H xs us Q I r h
    obtain ⟨x, rfl, W, dx, d, rfl, ok, qx, e, k⟩ := h
    cases qx with
    | int i => cases e; exact call_int1 pins s σ _ _ us Q I r (.inl ⟨i, rfl, aft_here ok k (.int _)⟩)
    | bl b => cases e; exact call_int1 pins s σ _ _ us Q I r (.inr ⟨b, rfl, aft_here ok k (.int _)⟩)
    | _ => cases e
  | str =>
    intro pins s σ H xs us Q I r h
    obtain ⟨x, rfl, W, dx, d, rfl, ok, qx, e, k⟩ := h
    cases qx with
    | int i =>
      obtain ⟨h1, h2⟩ := ifp_some (show (if i.natAbs.log2 < 1920 then some (D.str (toString i)) else none) = some d from e)
      subst h2
      exact call_str_int pins s σ _ _ us Q I r ⟨i, rfl, h1, aft_here ok k (.str _)⟩
    | bl b =>
      cases e
      cases r with
      | cons ra rb =>
        cases rb
        cases ra
        exact PySem.P.str_of_bool ⟨.str _, _, I.tok _, ⟨_, rfl⟩, aft_here ok k (.str _)⟩
    | _ => cases e
/-- what isinstance asks -/
theorem ty_D {W : Wd} (ok : W.Ok X.kx) {x : V} {d : D} {T : String} (r : Rd X.kx W x d) (e : tyD d = some T) : TyX X.kx W.H x (.type T) := by
  cases r with
  | non => cases e; exact .base .non
  | bl b => cases e; exact .base (.bl b)
  | int i => cases e; exact .base (.int i)
  | str z => cases e; exact .base (.str z)
  | tup hx lx rx =>
    cases e
    rcases ok.sqT hx with (h | ⟨o, h⟩) | ⟨o, its, n, h1, h2, _⟩
    · exact .base (.tup h)
    · exact .fTuple h
    · exact .kTuple h1 h2
  | lst hx lx rx =>
    cases e
    rcases hx.sq ok with (h | ⟨o, h⟩) | ⟨o, its, n, h1, h2, _⟩
    · exact .base (.lst h)
    · exact .base (.frz h)
    · exact .kList h1 h2
  | obj _ => cases e
  | set _ _ _ _ => cases e
  | dct _ _ _ _ _ => cases e
  | itv _ _ _ _ _ _ => cases e
end
end Cv

/-! Cv6: the look: is this text that core? Targets, walks. -/
namespace Cv
open PySem PySem.Spec PyProof.Rows L2

/-! ### views -/
def vName : Expr → Option Str
  | .Name x _ => some x
  | _ => none
theorem vName_ok {e : Expr} {x : Str} (h : vName e = some x) : ∃ p, e = .Name x p := by
  cases e <;> first | (cases h; done) | (cases h; exact ⟨_, rfl⟩)
def vConst : Expr → Option Const
  | .Constant c _ _ => some c
  | _ => none
theorem vConst_ok {e : Expr} {c : Const} (h : vConst e = some c) : ∃ j p, e = .Constant c j p := by
  cases e <;> first | (cases h; done) | (cases h; exact ⟨_, _, rfl⟩)
def vTuple : Expr → Option (List Expr)
  | .Tuple es _ _ => some es
  | _ => none
theorem vTuple_ok {e : Expr} {es : List Expr} (h : vTuple e = some es) : ∃ k p, e = .Tuple es k p := by
  cases e <;> first | (cases h; done) | (cases h; exact ⟨_, _, rfl⟩)
def vList : Expr → Option (List Expr)
  | .List es _ => some es
  | _ => none
theorem vList_ok {e : Expr} {es : List Expr} (h : vList e = some es) : ∃ p, e = .List es p := by
  cases e <;> first | (cases h; done) | (cases h; exact ⟨_, rfl⟩)
def vBin : Expr → Option (Expr × Operator × Expr)
  | .BinOp a o b _ => some (a, o, b)
  | _ => none
theorem vBin_ok {e a b : Expr} {o : Operator} (h : vBin e = some (a, o, b)) : ∃ p, e = .BinOp a o b p := by
  cases e <;> first | (cases h; done) | (cases h; exact ⟨_, rfl⟩)
def vUn : Expr → Option (UnaryOp × Expr)
  | .UnaryOp o a _ => some (o, a)
  | _ => none
theorem vUn_ok {e a : Expr} {o : UnaryOp} (h : vUn e = some (o, a)) : ∃ p, e = .UnaryOp o a p := by
  cases e <;> first | (cases h; done) | (cases h; exact ⟨_, rfl⟩)
def vCmp : Expr → Option (Expr × List CmpOp × List Expr)
  | .Compare a o b _ => some (a, o, b)
  | _ => none
theorem vCmp_ok {e a : Expr} {o : List CmpOp} {b : List Expr} (h : vCmp e = some (a, o, b)) : ∃ p, e = .Compare a o b p := by
  cases e <;> first | (cases h; done) | (cases h; exact ⟨_, rfl⟩)
def vBool : Expr → Option (BoolOp × List Expr × Pos)
  | .BoolOp o b p => some (o, b, p)
  | _ => none
theorem vBool_ok {e : Expr} {o : BoolOp} {b : List Expr} {p : Pos} (h : vBool e = some (o, b, p)) : e = .BoolOp o b p := by
  cases e <;> first | (cases h; done) | (cases h; rfl)
def vIf : Expr → Option (Expr × Expr × Expr)
  | .IfExp c a b _ => some (c, a, b)
  | _ => none
theorem vIf_ok {e c a b : Expr} (h : vIf e = some (c, a, b)) : ∃ p, e = .IfExp c a b p := by
  cases e <;> first | (cases h; done) | (cases h; exact ⟨_, rfl⟩)
def vSub : Expr → Option (Expr × Expr)
  | .Subscript a i _ => some (a, i)
  | _ => none
theorem vSub_ok {e a i : Expr} (h : vSub e = some (a, i)) : ∃ p, e = .Subscript a i p := by
  cases e <;> first | (cases h; done) | (cases h; exact ⟨_, rfl⟩)
def vSlice : Expr → Option (Option Expr × Option Expr × Option Expr)
  | .Slice a b c _ => some (a, b, c)
  | _ => none
theorem vSlice_ok {e : Expr} {a b c : Option Expr} (h : vSlice e = some (a, b, c)) : ∃ p, e = .Slice a b c p := by
  cases e <;> first | (cases h; done) | (cases h; exact ⟨_, rfl⟩)
/-- a call of a name, no keywords -/
def vCall : Expr → Option (Str × List Expr)
  | .Call (.Name x _) es [] _ => some (x, es)
  | _ => none
theorem vCall_ok {e : Expr} {x : Str} {es : List Expr} (h : vCall e = some (x, es)) : ∃ p q, e = .Call (.Name x p) es [] q := by
  unfold vCall at h
  split at h
  · cases h; exact ⟨_, _, rfl⟩
  · cases h
/-- a method's call without arguments, on one line -/
def vMeth0 : Expr → Option (Expr × Str × Pos × Pos)
  | .Call (.Attribute o m p) [] [] q => some (o, m, p, q)
  | _ => none
theorem vMeth0_ok {e o : Expr} {m : Str} {p q : Pos} (h : vMeth0 e = some (o, m, p, q)) : e = .Call (.Attribute o m p) [] [] q := by
  unfold vMeth0 at h
  split at h
  · cases h; rfl
  · cases h
def vMeth1 : Expr → Option (Expr × Str × Expr × Pos × Pos)
  | .Call (.Attribute o m p) [a] [] q => some (o, m, a, p, q)
  | _ => none
theorem vMeth1_ok {e o a : Expr} {m : Str} {p q : Pos} (h : vMeth1 e = some (o, m, a, p, q)) : e = .Call (.Attribute o m p) [a] [] q := by
  unfold vMeth1 at h
  split at h
  · cases h; rfl
  · cases h
def vLc1 : Expr → Option (Expr × Expr × Expr × List Expr × Scope × Pos)
  | .ListComp e [⟨t, i, c, 0⟩] s p => some (e, t, i, c, s, p)
  | _ => none
theorem vLc1_ok {x e t i : Expr} {c : List Expr} {s : Scope} {p : Pos} (h : vLc1 x = some (e, t, i, c, s, p)) : x = .ListComp e [⟨t, i, c, 0⟩] s p := by
  unfold vLc1 at h
  split at h
  · cases h; rfl
  · cases h
def vSc1 : Expr → Option (Expr × Expr × Expr × List Expr × Scope × Pos)
  | .SetComp e [⟨t, i, c, 0⟩] s p => some (e, t, i, c, s, p)
  | _ => none
theorem vSc1_ok {x e t i : Expr} {c : List Expr} {s : Scope} {p : Pos} (h : vSc1 x = some (e, t, i, c, s, p)) : x = .SetComp e [⟨t, i, c, 0⟩] s p := by
  unfold vSc1 at h
  split at h
  · cases h; rfl
  · cases h
def vLc2 : Expr → Option (Expr × (Expr × Expr × List Expr) × (Expr × Expr × List Expr) × Scope × Pos)
  | .ListComp e [⟨t, i, c, 0⟩, ⟨t1, i1, c1, 0⟩] s p => some (e, (t, i, c), (t1, i1, c1), s, p)
  | _ => none
theorem vLc2_ok {x e t i t1 i1 : Expr} {c c1 : List Expr} {s : Scope} {p : Pos} (h : vLc2 x = some (e, (t, i, c), (t1, i1, c1), s, p)) : x = .ListComp e [⟨t, i, c, 0⟩, ⟨t1, i1, c1, 0⟩] s p := by
  unfold vLc2 at h
  split at h
  · cases h; rfl
  · cases h
def vDict : Expr → Option (List (Option Expr) × List Expr)
  | .Dict ks vs _ => some (ks, vs)
  | _ => none
theorem vDict_ok {e : Expr} {ks : List (Option Expr)} {vs : List Expr} (h : vDict e = some (ks, vs)) : ∃ p, e = .Dict ks vs p := by
  cases e <;> first | (cases h; done) | (cases h; exact ⟨_, rfl⟩)

def noStar : Expr → Bool
  | .Starred _ _ => false
  | _ => true
theorem star_each {e : Expr} (h : noStar e = true) (es : List Expr) (env : Env) : starEach (e :: es) env = (false, eval e env) :: starEach es env := by
  cases e <;> first | rfl | (cases h; done)
theorem star_any : ∀ {es : List Expr} (pos : Pos) (env : Env), es.all noStar = true → (backTo pos (starEach es env)).any (·.1) = false
  | [], _, _, _ => rfl
  | e :: es, pos, env, h => by
    rw [List.all_cons, Bool.and_eq_true] at h
    rw [star_each h.1]
    show (false || (backTo pos (starEach es env)).any (·.1)) = false
    rw [star_any pos env h.2]
    rfl
theorem asg_each {e : Expr} (h : noStar e = true) (es : List Expr) (env : Env) : assignEach (e :: es) env = (false, assign e env) :: assignEach es env := by
  cases e <;> first | rfl | (cases h; done)
/-- tested by its value -/
def plainT : Expr → Bool
  | .UnaryOp .Not _ _ => false
  | .BoolOp _ _ _ => false
  | .IfExp _ _ _ _ => false
  | .Compare _ _ _ _ => false
  | _ => true
theorem plainT_ok {e : Expr} {env : Env} (h : plainT e = true) : ∀ whole, isTrue e env whole = (do let v ← whole; standAt e.pos; holding [v] (truthy v)) := by
  intro whole
  cases e with
  | UnaryOp o a p => cases o <;> first | rfl | (cases h; done)
  | BoolOp => cases h
  | IfExp => cases h
  | Compare => cases h
  | _ => rfl
def noSet : Expr → Bool
  | .Set _ _ _ => false
  | _ => true
theorem noSet_ok {e : Expr} (h : noSet e = true) (env : Env) : ∀ x, foldedSetIterable e env x = pure x := by
  intro x
  cases e <;> first | rfl | (cases h; done)
theorem noSet_mark {e : Expr} (h : noSet e = true) (o : CmpOp) : behindInMarks o e = false := by
  cases e <;> first | rfl | (cases h; done)
def isSlice : Expr → Bool
  | .Slice _ _ _ _ => true
  | _ => false
theorem plainIx {e : Expr} (h : isSlice e = false) : PlainIx e := by
  intro o i
  cases e <;> first | rfl | (cases h; done)
def noComp : Expr → Bool
  | .ListComp _ _ _ _ => false
  | .SetComp _ _ _ _ => false
  | .DictComp _ _ _ _ _ => false
  | _ => true
theorem noComp_sw {e : Expr} (h : noComp e = true) (t : Option Expr) (l : Nat) (env : Env) : swapsWith e t l env = pure false := by
  cases e <;> first | rfl | (cases h; done)
/-- not super() -/
def plainO : Expr → Bool
  | .Call _ _ _ _ => false
  | _ => true
theorem plainO_ok {e : Expr} (h : plainO e = true) (m : Str) (env : Env) : attributeBase e m env (eval e env) = eval e env := by
  cases e <;> first | rfl | (cases h; done)

/-! ### the look's frame -/
structure Ck where
  N : List Str
  fns : List (Str × Nat)
  gls : List Str
structure Zs where
  sc : Scope
  fc : Option Scope
def bNames : List Str := ["len", "abs", "sum", "repr", "list", "tuple", "all", "any", "int", "str", "range", "zip", "isinstance", "bool", "dict", "set", "sorted", "min", "max", "enumerate", "reversed"]
def visB (sc : Scope) (x : Str) : Bool := match sc.names.lookup x with
  | some .local => true
  | some .cell => true
  | some .free => true
  | _ => false
theorem visB_ok {sc : Scope} {x : Str} (h : visB sc x = true) : Vis sc x := by
  unfold visB at h
  split at h
  · exact .inl (by assumption)
  · exact .inr (.inl (by assumption))
  · exact .inr (.inr (by assumption))
  · cases h
def nmB (x : Str) : Bool := !(x == ("__debug__" : Str)) && !(x == ("__classdict__" : Str)) && !(decide (x = "__name__"))
theorem nmB_1 {x : Str} (h : nmB x = true) : (x == ("__debug__" : Str)) = false := by
  unfold nmB at h
  simp only [Bool.and_eq_true, Bool.not_eq_true'] at h
  exact h.1.1
theorem nmB_2 {x : Str} (h : nmB x = true) : (x == ("__classdict__" : Str)) = false := by
  unfold nmB at h
  simp only [Bool.and_eq_true, Bool.not_eq_true'] at h
  exact h.1.2
def glB (sc : Scope) (x : Str) : Bool := match sc.names.lookup x with
  | some .globalImplicit => true
  | _ => false
theorem glB_ok {X : Cx} {x : Str} (h : glB X.env.scope x = true) : Gl X x := by
  unfold glB at h
  split at h
  · rename_i q; exact q
  · cases h
def fnOf (fc : Option Scope) (x : Str) : Bool := match fc with
  | none => true
  | some s => s.names.lookup x == some .cell
def storeB (z : Zs) (x : Str) : Bool := match z.sc.names.lookup x with
  | some .local => true
  | some .cell => fnOf z.fc x
  | _ => false
theorem storeB_ok {X : Cx} {z : Zs} {x : Str} (h : storeB z x = true) (e1 : X.env.scope = z.sc) (e2 : ∀ x, X.fn x = fnOf z.fc x) : Loc X.env.scope x ∧ (X.fn x = true ∨ X.env.scope.names.lookup x = some .local) := by
  unfold storeB at h
  rw [e1, e2]
  split at h
  · rename_i q; exact ⟨.inl q, .inr q⟩
  · rename_i q; exact ⟨.inr q, .inl h⟩
  · cases h
def ixB (N : List Str) (i : Nat) (x : Str) : Bool := decide (N[i]? = some x)

/-! ### targets -/
def Tg.ix : Tg → List Nat
  | .nm i => [i]
  | .tp2 a b => a.ix ++ b.ix
  | .tp3 a b c => a.ix ++ b.ix ++ c.ix
  | .tp4 a b c d => a.ix ++ b.ix ++ c.ix ++ d.ix
def chkG (q : Ck) (z : Zs) : Tg → Expr → Bool
  | .nm i, e => (match vName e with
    | some x => ixB q.N i x && storeB z x
    | none => false)
  | .tp2 a b, e => (match vTuple e with
    | some [x, y] => noStar x && noStar y && chkG q z a x && chkG q z b y
    | _ => false)
  | .tp3 a b c, e => (match vTuple e with
    | some [x, y, w] => noStar x && noStar y && noStar w && chkG q z a x && chkG q z b y && chkG q z c w
    | _ => false)
  | .tp4 a b c d, e => (match vTuple e with
    | some [x, y, w, u] => noStar x && noStar y && noStar w && noStar u && chkG q z a x && chkG q z b y && chkG q z c w && chkG q z d u
    | _ => false)
/-- the context fits the look's frame -/
structure Gd (q : Ck) (z : Zs) (X : Cx) : Prop where
  N : X.N = q.N
  nd : X.N.Nodup
  sc : X.env.scope = z.sc
  fn : ∀ x, X.fn x = fnOf z.fc x
  calm : X.calm = true
  gd : X.A.guards = some []
  un : X.A.units + 200 < cLine
  bl : ∀ x ∈ bNames, X.mg x = none

section
variable (K : Kx)
def tG (t : Tg) : TG := fun v σ H Q => ∃ (W0 W : Wd) (en : En) (d : D) (en2 : En), W.H = H ∧ W.Ok K ∧ EnOk K W0 W en σ ∧ W.Rp K v d ∧ asg t d en = some en2 ∧
  ∀ σ2, EnOk K W0 W en2 σ2 → (∀ vs, (∀ i ∈ t.ix, i ∈ vs) → wipe σ2 vs = wipe σ vs) → Q σ2 H
end
theorem wipe_set {σ : L2.St} {i : Nat} {x : Option V} : ∀ {vs : List Nat}, i ∈ vs → wipe (σ.set i x) vs = wipe σ vs
  | [], h => by cases h
  | v :: vs, h => by
    unfold wipe
    by_cases hm : i ∈ vs
    · rw [wipe_set hm]
    · have e : i = v := by
        rcases List.mem_cons.mp h with e | e
        · exact e
        · exact absurd e hm
      subst e
      have off : ∀ (ws : List Nat) (τ : L2.St), i ∉ ws → wipe (τ.set i x) ws = (wipe τ ws).set i x := by
        intro ws
        induction ws with
        | nil => intro τ _; rfl
        | cons w ws ih =>
          intro τ hw
          unfold wipe
          rw [ih τ (fun q => hw (List.mem_cons_of_mem _ q))]
          rw [List.set_comm]
          intro q
          exact hw (by rw [q]; exact List.mem_cons_self)
      rw [off vs σ hm, List.set_set]
theorem PG.weaken {X : Cx} {e : Expr} {t u : TG} (h : PG X e t) (i : ∀ v σ H Q, u v σ H Q → t v σ H Q) : PG X e u :=
  ⟨fun pins s σ H v w Q I r q => h.run pins s σ H v w Q I r (i v σ H Q q)⟩
theorem obind {α β : Type} {o : Option α} {f : α → Option β} {b : β} (h : o.bind f = some b) : ∃ a, o = some a ∧ f a = some b := by
  cases o with
  | none => cases h
  | some a => exact ⟨a, rfl, h⟩
section
variable {K : Kx} {F : Hp} {io : List Addr}
theorem reps_nil {vs : List V} (r : Reps K F io vs []) : vs = [] := by cases r; rfl
theorem reps_cons {vs : List V} {d : D} {ds : List D} (r : Reps K F io vs (d :: ds)) : ∃ v ws, vs = v :: ws ∧ Rep K F io v d ∧ Reps K F io ws ds := by
  cases r with
  | cons h r => exact ⟨_, _, rfl, h, r⟩
end
theorem asg2 {a b : Tg} {ds : List D} {en en2 : En} (h : asg (.tp2 a b) (.tup ds) en = some en2) : ∃ x y en1, ds = [x, y] ∧ asg a x en = some en1 ∧ asg b y en1 = some en2 := by
  match ds, h with
  | [x, y], h =>
    obtain ⟨en1, a1, a2⟩ := obind h
    exact ⟨x, y, en1, rfl, a1, a2⟩
theorem asg3 {a b c : Tg} {ds : List D} {en en2 : En} (h : asg (.tp3 a b c) (.tup ds) en = some en2) : ∃ x y w en1 en3, ds = [x, y, w] ∧ asg a x en = some en1 ∧ asg b y en1 = some en3 ∧ asg c w en3 = some en2 := by
  match ds, h with
  | [x, y, w], h =>
    obtain ⟨en3, h, a3⟩ := obind h
    obtain ⟨en1, a1, a2⟩ := obind h
    exact ⟨x, y, w, en1, en3, rfl, a1, a2, a3⟩
theorem asg4 {a b c e : Tg} {ds : List D} {en en2 : En} (h : asg (.tp4 a b c e) (.tup ds) en = some en2) : ∃ x y w u en1 en3 en4, ds = [x, y, w, u] ∧ asg a x en = some en1 ∧ asg b y en1 = some en3 ∧ asg c w en3 = some en4 ∧ asg e u en4 = some en2 := by
  match ds, h with
  | [x, y, w, u], h =>
    obtain ⟨en4, h, a4⟩ := obind h
    obtain ⟨en3, h, a3⟩ := obind h
    obtain ⟨en1, a1, a2⟩ := obind h
    exact ⟨x, y, w, u, en1, en3, en4, rfl, a1, a2, a3, a4⟩
theorem asgN {a b : Tg} {d : D} {en en2 : En} (h : asg (.tp2 a b) d en = some en2) : ∃ ds, d = .tup ds := by
  cases d <;> first | exact ⟨_, rfl⟩ | cases h
theorem asgN3 {a b c : Tg} {d : D} {en en2 : En} (h : asg (.tp3 a b c) d en = some en2) : ∃ ds, d = .tup ds := by
  cases d <;> first | exact ⟨_, rfl⟩ | cases h
theorem asgN4 {a b c e : Tg} {d : D} {en en2 : En} (h : asg (.tp4 a b c e) d en = some en2) : ∃ ds, d = .tup ds := by
  cases d <;> first | exact ⟨_, rfl⟩ | cases h
section
variable {q : Ck} {z : Zs} {X : Cx}
theorem pg_tg (G : Gd q z X) : ∀ (t : Tg) (e : Expr), chkG q z t e = true → PG X e (tG X.kx t) := by
  intro t
  induction t with
  | nm i =>
    intro e h
    unfold chkG at h
    split at h
    · rename_i x hx
      obtain ⟨p, rfl⟩ := vName_ok hx
      have h := Bool.and_eq_true_iff.mp h
      obtain ⟨s1, s2⟩ := storeB_ok h.2 G.sc G.fn
      have hi : X.N[i]? = some x := by rw [G.N]; exact of_decide_eq_true h.1
      refine PG.weaken (pg_name G.nd hi s1 s2) ?_
      rintro v σ H Q ⟨W0, W, en, d, en2, rfl, ok, eo, r, ha, k⟩
      obtain ⟨h1, h2⟩ := ifp_some (show (if i < en.length then some (setV en i d) else none) = some en2 from ha)
      subst h2
      exact k _ (eo.set h1 r) fun vs hv => wipe_set (hv i (by simp [Tg.ix]))
    · cases h
  | tp2 a b iha ihb =>
    intro e h
    unfold chkG at h
    split at h
    · rename_i x y hx
      obtain ⟨k0, p, rfl⟩ := vTuple_ok hx
      simp only [Bool.and_eq_true] at h
      obtain ⟨⟨⟨n1, n2⟩, h1⟩, h2⟩ := h
      refine PG.weaken (pg_tup (n := 2) G.calm (pgs_cons (iha x h1) (pgs_cons (ihb y h2) pgs_nil (by rw [asg_each n2]; rfl)) (by rw [asg_each n1]; rfl)) (by rw [asg_each n1, asg_each n2]; rfl) (by rw [asg_each n1, asg_each n2]; rfl)) ?_
      rintro v σ H Q ⟨W0, W, en, d, en2, rfl, ok, eo, r, ha, k⟩
      obtain ⟨ds, rfl⟩ := asgN ha
      obtain ⟨d1, d2, en1, rfl, a1, a2⟩ := asg2 ha
      cases r with
      | @tup ad vs _ hx lx rx =>
          obtain ⟨v1, _, rfl, r1, rx⟩ := reps_cons rx
          obtain ⟨v2, _, rfl, r2, rx⟩ := reps_cons rx
          cases reps_nil rx
          refine ⟨ad, _, rfl, ok.sqT hx, rfl, _, _, rfl, W0, W, en, _, en1, rfl, ok, eo, r1, a1, fun σ1 eo1 w1 => ?_⟩
          refine ⟨_, _, rfl, W0, W, en1, _, en2, rfl, ok, eo1, r2, a2, fun σ2 eo2 w2 => ?_⟩
          exact ⟨rfl, k σ2 eo2 fun vs hv => (w2 vs fun i hi => hv i (by simp [Tg.ix, hi])).trans (w1 vs fun i hi => hv i (by simp [Tg.ix, hi]))⟩
    · cases h
  | tp3 a b c iha ihb ihc =>
    intro e h
    unfold chkG at h
    split at h
    · rename_i x y w hx
      obtain ⟨k0, p, rfl⟩ := vTuple_ok hx
      simp only [Bool.and_eq_true] at h
      obtain ⟨⟨⟨⟨⟨n1, n2⟩, n3⟩, h1⟩, h2⟩, h3⟩ := h
      refine PG.weaken (pg_tup (n := 3) G.calm (pgs_cons (iha x h1) (pgs_cons (ihb y h2) (pgs_cons (ihc w h3) pgs_nil (by rw [asg_each n3]; rfl)) (by rw [asg_each n2]; rfl)) (by rw [asg_each n1]; rfl)) (by rw [asg_each n1, asg_each n2, asg_each n3]; rfl) (by rw [asg_each n1, asg_each n2, asg_each n3]; rfl)) ?_
      rintro v σ H Q ⟨W0, W, en, d, en2, rfl, ok, eo, r, ha, k⟩
      obtain ⟨ds, rfl⟩ := asgN3 ha
      obtain ⟨d1, d2, d3, en1, en3, rfl, a1, a2, a3⟩ := asg3 ha
      cases r with
      | @tup ad vs _ hx lx rx =>
          obtain ⟨v1, _, rfl, r1, rx⟩ := reps_cons rx
          obtain ⟨v2, _, rfl, r2, rx⟩ := reps_cons rx
          obtain ⟨v3, _, rfl, r3, rx⟩ := reps_cons rx
          cases reps_nil rx
          refine ⟨ad, _, rfl, ok.sqT hx, rfl, _, _, rfl, W0, W, en, _, en1, rfl, ok, eo, r1, a1, fun σ1 eo1 w1 => ?_⟩
          refine ⟨_, _, rfl, W0, W, en1, _, en3, rfl, ok, eo1, r2, a2, fun σ2 eo2 w2 => ?_⟩
          refine ⟨_, _, rfl, W0, W, en3, _, en2, rfl, ok, eo2, r3, a3, fun σ3 eo3 w3 => ?_⟩
          exact ⟨rfl, k σ3 eo3 fun vs hv => (w3 vs fun i hi => hv i (by simp [Tg.ix, hi])).trans ((w2 vs fun i hi => hv i (by simp [Tg.ix, hi])).trans (w1 vs fun i hi => hv i (by simp [Tg.ix, hi])))⟩
    · cases h
  | tp4 a b c f iha ihb ihc ihf =>
    intro e h
    unfold chkG at h
    split at h
    · rename_i x y w u hx
      obtain ⟨k0, p, rfl⟩ := vTuple_ok hx
      simp only [Bool.and_eq_true] at h
      obtain ⟨⟨⟨⟨⟨⟨⟨n1, n2⟩, n3⟩, n4⟩, h1⟩, h2⟩, h3⟩, h4⟩ := h
      refine PG.weaken (pg_tup (n := 4) G.calm (pgs_cons (iha x h1) (pgs_cons (ihb y h2) (pgs_cons (ihc w h3) (pgs_cons (ihf u h4) pgs_nil (by rw [asg_each n4]; rfl)) (by rw [asg_each n3]; rfl)) (by rw [asg_each n2]; rfl)) (by rw [asg_each n1]; rfl)) (by rw [asg_each n1, asg_each n2, asg_each n3, asg_each n4]; rfl) (by rw [asg_each n1, asg_each n2, asg_each n3, asg_each n4]; rfl)) ?_
      rintro v σ H Q ⟨W0, W, en, d, en2, rfl, ok, eo, r, ha, k⟩
      obtain ⟨ds, rfl⟩ := asgN4 ha
      obtain ⟨d1, d2, d3, d4, en1, en3, en4, rfl, a1, a2, a3, a4⟩ := asg4 ha
      cases r with
      | @tup ad vs _ hx lx rx =>
          obtain ⟨v1, _, rfl, r1, rx⟩ := reps_cons rx
          obtain ⟨v2, _, rfl, r2, rx⟩ := reps_cons rx
          obtain ⟨v3, _, rfl, r3, rx⟩ := reps_cons rx
          obtain ⟨v4, _, rfl, r4, rx⟩ := reps_cons rx
          cases reps_nil rx
          refine ⟨ad, _, rfl, ok.sqT hx, rfl, _, _, rfl, W0, W, en, _, en1, rfl, ok, eo, r1, a1, fun σ1 eo1 w1 => ?_⟩
          refine ⟨_, _, rfl, W0, W, en1, _, en3, rfl, ok, eo1, r2, a2, fun σ2 eo2 w2 => ?_⟩
          refine ⟨_, _, rfl, W0, W, en3, _, en4, rfl, ok, eo2, r3, a3, fun σ3 eo3 w3 => ?_⟩
          refine ⟨_, _, rfl, W0, W, en4, _, en2, rfl, ok, eo3, r4, a4, fun σ4 eo4 w4 => ?_⟩
          exact ⟨rfl, k σ4 eo4 fun vs hv => (w4 vs fun i hi => hv i (by simp [Tg.ix, hi])).trans ((w3 vs fun i hi => hv i (by simp [Tg.ix, hi])).trans ((w2 vs fun i hi => hv i (by simp [Tg.ix, hi])).trans (w1 vs fun i hi => hv i (by simp [Tg.ix, hi]))))⟩
    · cases h
end
end Cv

/-! Cv7: what is walked; calls of defs. -/
namespace Cv
open PySem PySem.Spec PyProof.Rows L2

/-- what is frozen stays -/
structure Lw (W W' : Wd) : Prop where
  ff : ∀ a o, W.F a = some o → W'.F a = some o
  ix : ∀ (n : Nat) a, W.io[n]? = some a → W'.io[n]? = some a
theorem Le.lw {W W' : Wd} (l : Le W W') : Lw W W' := ⟨l.ff, l.ix⟩
theorem Lw.refl (W : Wd) : Lw W W := ⟨fun _ _ h => h, fun _ _ h => h⟩
theorem Lw.trans {W W1 W2 : Wd} (a : Lw W W1) (b : Lw W1 W2) : Lw W W2 := ⟨fun c o h => b.ff c o (a.ff c o h), fun n c h => b.ix n c (a.ix n c h)⟩
theorem Lw.rps {K : Kx} {W W' : Wd} (l : Lw W W') {v : List V} {d : List D} (r : W.Rps K v d) : W'.Rps K v d := Reps.mono l.ff l.ix r
theorem Lw.rp {K : Kx} {W W' : Wd} (l : Lw W W') {v : V} {d : D} (r : W.Rp K v d) : W'.Rp K v d := Rep.mono l.ff l.ix r
/-- what an iterator gives, in all worlds that come -/
structure Wk (Rl : Wd → Wd → Prop) (K : Kx) (W : Wd) (J : It) (ds : List D) : Prop where
  go : ∀ W' i, Rl W W' → W'.Ok K → i < ds.length → J.go i W'.H
  yl : ∀ W' i x H', Rl W W' → W'.Ok K → i < ds.length → J.yld i W'.H x H' → ∃ W2 d, Wd.H W2 = H' ∧ Le W' W2 ∧ W2.Ok K ∧ W2.S = W'.S ∧ ds[i]? = some d ∧ W2.Rp K x d
  st : ∀ W', Rl W W' → W'.Ok K → J.stop ds.length W'.H
  ln : ds.length ≤ sizeLine
theorem Wk.le {K : Kx} {W : Wd} {J : It} {ds : List D} (w : Wk Lw K W J ds) : Wk Le K W J ds := ⟨fun W' i l => w.go W' i l.lw, fun W' i x H' l => w.yl W' i x H' l.lw, fun W' l => w.st W' l.lw, w.ln⟩
section
variable {K : Kx} {W : Wd}
/-- a name's own list, walked while nothing but expressions are reckoned -/
theorem wk_listO {a : Addr} {vs : List V} {ds : List D} (hx : LsR K W a vs) (hz : vs.length ≤ sizeLine) (r : W.Rps K vs ds) : Wk Le K W (Itl K a) ds := by
  refine ⟨fun W' i l ok hi => ?_, fun W' i x H' l ok hi y => ?_, fun W' l ok => ?_, ?_⟩
  · have hl := r.len
    exact ⟨vs, vs[i], (l.lsR hx).sq ok, List.getElem?_eq_getElem (by omega)⟩
  · obtain ⟨e, y⟩ := y
    have hv := y vs ((l.lsR hx).sq ok)
    obtain ⟨d, h1, h2⟩ := r.getV hv
    exact ⟨W', d, e.symm, Le.refl _, ok, rfl, h1, l.rp h2⟩
  · exact ⟨vs, (l.lsR hx).sq ok, Nat.le_of_eq r.len⟩
  · rw [← r.len]; exact hz
theorem wk_list {a : Addr} {vs : List V} {ds : List D} (hx : LsAt K W.F a vs) (hz : vs.length ≤ sizeLine) (r : W.Rps K vs ds) : Wk Lw K W (Itl K a) ds := by
  refine ⟨fun W' i l ok hi => ?_, fun W' i x H' l ok hi y => ?_, fun W' l ok => ?_, ?_⟩
  · have hs := ok.sqL (lsAt_mono l.ff hx)
    have hl := r.len
    exact ⟨vs, vs[i], hs, List.getElem?_eq_getElem (by omega)⟩
  · obtain ⟨e, y⟩ := y
    have hs := ok.sqL (lsAt_mono l.ff hx)
    have hv := y vs hs
    obtain ⟨d, h1, h2⟩ := r.getV hv
    exact ⟨W', d, e.symm, Le.refl _, ok, rfl, h1, l.rp h2⟩
  · exact ⟨vs, ok.sqL (lsAt_mono l.ff hx), Nat.le_of_eq r.len⟩
  · rw [← r.len]; exact hz
theorem wk_tup {a : Addr} {vs : List V} {ds : List D} (hx : TuP K W.F a vs) (hz : vs.length ≤ sizeLine) (r : W.Rps K vs ds) : Wk Lw K W (Itt K a) ds := by
  refine ⟨fun W' i l ok hi => ?_, fun W' i x H' l ok hi y => ?_, fun W' l ok => ?_, ?_⟩
  · have hs := ok.sqT (hx.mono l.ff)
    have hl := r.len
    exact ⟨vs, vs[i], hs, List.getElem?_eq_getElem (by omega)⟩
  · obtain ⟨e, y⟩ := y
    have hs := ok.sqT (hx.mono l.ff)
    have hv := y vs hs
    obtain ⟨d, h1, h2⟩ := r.getV hv
    exact ⟨W', d, e.symm, Le.refl _, ok, rfl, h1, l.rp h2⟩
  · exact ⟨vs, ok.sqT (hx.mono l.ff), Nat.le_of_eq r.len⟩
  · rw [← r.len]; exact hz
theorem wk_str (z : Str) (hz : z.length ≤ sizeLine) : Wk Lw K W (Its z) (z.cps.toList.map fun c => D.str ⟨#[c]⟩) := by
  refine ⟨fun W' i l ok hi => ?_, fun W' i x H' l ok hi y => ?_, fun W' l ok => ?_, ?_⟩
  · show i < z.cps.size
    simpa using hi
  · obtain ⟨e, c, hc, ex⟩ := y
    subst ex
    exact ⟨W', _, e.symm, Le.refl _, ok, rfl, by rw [List.getElem?_map, Array.getElem?_toList, hc]; rfl, .str _⟩
  · show z.cps.size ≤ _
    simp
  · rw [List.length_map]; simpa [Str.length] using hz
theorem wk_rng (lo hi : Int) (h1 : rgOk lo = true) (h2 : rgOk hi = true) : Wk Lw K W (Itr lo (hi - lo).toNat) (rangeD lo hi) := by
  have hl : (rangeD lo hi).length = (hi - lo).toNat := by simp [rangeD]
  refine ⟨fun W' i l ok hi => ?_, fun W' i x H' l ok hi' y => ?_, fun W' l ok => ?_, ?_⟩
  · show i < _
    rw [hl] at hi; exact hi
  · obtain ⟨e, ex⟩ := y
    subst ex
    rw [hl] at hi'
    refine ⟨W', .int (lo + i), e.symm, Le.refl _, ok, rfl, ?_, .int _⟩
    unfold rangeD
    rw [List.getElem?_map, List.getElem?_range hi']
    rfl
  · show (hi - lo).toNat ≤ _
    rw [hl]; exact Nat.le_refl _
  · rw [hl]
    unfold rgOk at h1 h2
    simp only [Bool.and_eq_true, decide_eq_true_eq] at h1 h2
    rw [sizeLine_eq]
    omega
theorem zip_len : ∀ (xs ys : List D), (zipD xs ys).length = min xs.length ys.length
  | [], _ => by simp [zipD]
  | _ :: _, [] => by simp [zipD]
  | x :: xs, y :: ys => by
    show (zipD xs ys).length + 1 = _
    rw [zip_len xs ys]
    simp only [List.length_cons]
    omega
theorem zip_get : ∀ (xs ys : List D) (i : Nat) (x y : D), xs[i]? = some x → ys[i]? = some y → (zipD xs ys)[i]? = some (.tup [x, y])
  | [], _, _, _, _, h, _ => by simp at h
  | _ :: _, [], _, _, _, _, h => by simp at h
  | x :: xs, y :: ys, 0, _, _, h, h2 => by
    simp at h h2
    subst h h2
    rfl
  | x :: xs, y :: ys, i + 1, a, b, h, h2 => zip_get xs ys i a b (by simpa using h) (by simpa using h2)
/-- what a zip goes over: a list, a tuple -/
def SqW (K : Kx) (W : Wd) : Bool → Addr → List V → Prop
  | true, a, vs => LsAt K W.F a vs
  | false, a, vs => TuP K W.F a vs
theorem SqW.at_ {b : Bool} {a : Addr} {vs : List V} {W' : Wd} (h : SqW K W b a vs) (ok : W'.Ok K) (l : Lw W W') : SqB K b W'.H a vs := by
  cases b with
  | true => exact ok.sqL (lsAt_mono l.ff h)
  | false => exact ok.sqT (h.mono l.ff)
/-- strict: as long as one another -/
def zOk (f : Bool) (xs ys : List D) : Bool := !f || decide (xs.length = ys.length)
theorem wk_zip {f b1 b2 : Bool} {a b : Addr} {vs ws : List V} {ds es : List D} (hx : SqW K W b1 a vs) (hz : vs.length ≤ sizeLine) (r : W.Rps K vs ds) (hy : SqW K W b2 b ws) (r2 : W.Rps K ws es) (hf : zOk f ds es = true) : Wk Lw K W (ItZ K f b1 b2 a b) (zipD ds es) := by
  have l1 := r.len
  have l2 := r2.len
  have lz := zip_len ds es
  refine ⟨fun W' i l ok hi => ?_, fun W' i x H' l ok hi y => ?_, fun W' l ok => ?_, ?_⟩
  · exact ⟨vs, ws, vs[i], ws[i], hx.at_ ok l, hy.at_ ok l, List.getElem?_eq_getElem (by omega), List.getElem?_eq_getElem (by omega)⟩
  · obtain ⟨T, x1, y1, o, rfl, ho, hT, e, yx, yy⟩ := y
    have hv := yx vs (hx.at_ ok l)
    have hw := yy ws (hy.at_ ok l)
    obtain ⟨d, h1, h2⟩ := r.getV hv
    obtain ⟨g, h3, h4⟩ := r2.getV hw
    refine ⟨W'.fr T (.frz o (.tup [x1, y1])), .tup [d, g], e.symm, le_fr ok hT, ok_fr ok hT, rfl, zip_get _ _ _ _ _ h1 h3, ?_⟩
    exact rp_newT ok ho hT (by show 2 ≤ sizeLine; decide) (.cons (l.rp h2) (.cons (l.rp h4) .nil))
  · refine ⟨vs, ws, hx.at_ ok l, hy.at_ ok l, ?_⟩
    cases f with
    | true =>
      have : ds.length = es.length := of_decide_eq_true (show decide (ds.length = es.length) = true from hf)
      exact ⟨by omega, by omega⟩
    | false =>
      show vs.length ≤ _ ∨ ws.length ≤ _
      omega
  · omega
end
/-- a walk over what m says -/
def tIM (Rl : Wd → Wd → Prop) (K : Kx) (m : En → M (List D)) : TI := fun σ H R => At K σ H fun W en => ∃ ds S', m en W.S = some (ds, S') ∧ Aft K W S' fun W' => ∀ J, Wk Rl K W' J ds → R J W'.H
/-- a list, a tuple, a text: walked -/
def iSq (K : Kx) (te : TE) : TI := fun σ H R => te σ H fun x H1 =>
  (∃ a xs, x = .ref a ∧ SqL K H1 a xs ∧ R (Itl K a) H1) ∨ (∃ a xs, x = .ref a ∧ SqT K H1 a xs ∧ R (Itt K a) H1) ∨ ∃ z, x = .str z ∧ R (Its z) H1
section
variable {X : Cx} {tg : Expr}
theorem pi_sq {l : Expr} {tl : TE} (hl : PE X l tl) : PI X tg l (iSq X.kx tl) := by
  refine ⟨fun pins s σ H R I h => ?_⟩
  refine thn (hl.run pins s σ H _ I h) fun v s1 ⟨x, H1, I1, r1, q1⟩ => ?_
  rcases q1 with ⟨a, xs, e, hq, q⟩ | ⟨a, xs, e, hq, q⟩ | ⟨z, e, q⟩
  · subst e
    cases r1
    obtain ⟨its, rv, p, hz⟩ := I1.list hq
    exact wpAny_pyIter_list p.isList (pi_one (tk := s1.toks) I1 _ (turn_list a _) ⟨_, Heap.get?_push_size _ rfl, rfl, rfl⟩ q)
  · subst e
    cases r1
    obtain ⟨its, rv, p, hz⟩ := I1.tuple hq
    exact wpAny_pyIter_tuple p (pi_one (tk := s1.toks) I1 _ (turn_tuple a _) ⟨_, Heap.get?_push_size _ rfl, rfl, rfl⟩ q)
  · subst e
    obtain ⟨t, rfl⟩ := r1
    cases ha : z.cps.all (· < 128)
    · exact wpAny_pyIter_wide ha (pi_one (tk := s1.toks) I1 _ (turn_str _ z t "str_iterator" (.inr rfl)) ⟨_, Heap.get?_push_size _ rfl, rfl, rfl⟩ q)
    · exact wpAny_pyIter_ascii ha (pi_one (tk := s1.toks) I1 _ (turn_str _ z t "str_ascii_iterator" (.inl rfl)) ⟨_, Heap.get?_push_size _ rfl, rfl, rfl⟩ q)
theorem PI.weaken {e : Expr} {t u : TI} (h : PI X tg e t) (i : ∀ σ H R, u σ H R → t σ H R) : PI X tg e u := ⟨fun pins s σ H R I q => h.run pins s σ H R I (i σ H R q)⟩
theorem PE.weaken {e : Expr} {t u : TE} (h : PE X e t) (i : ∀ σ H Q, u σ H Q → t σ H Q) : PE X e u := ⟨fun pins s σ H Q I q => h.run pins s σ H Q I (i σ H Q q)⟩
theorem PT.weaken {e : Expr} {t u : TT} (h : PT X e t) (i : ∀ σ H Q, u σ H Q → t σ H Q) : PT X e u := ⟨fun pins s σ H Q I q => h.run pins s σ H Q I (i σ H Q q)⟩
theorem PW.weaken {e : Expr} {t u : TT} (h : PW X e t) (i : ∀ σ H Q, u σ H Q → t σ H Q) : PW X e u := ⟨fun wh pins s σ H Q I q => h.run wh pins s σ H Q I (i σ H Q q)⟩
theorem PA.weaken {e : List Expr} {t u : TA} (h : PA X e t) (i : ∀ σ H Q, u σ H Q → t σ H Q) : PA X e u := ⟨fun pos pins s σ H Q I q => h.run pos pins s σ H Q I (i σ H Q q)⟩
theorem PTs.weaken {e : List Expr} {t u : TT} (h : PTs X e t) (i : ∀ σ H Q, u σ H Q → t σ H Q) : PTs X e u := ⟨fun pins s σ H Q I q => h.run pins s σ H Q I (i σ H Q q)⟩
theorem PO.weaken {e : Option Expr} {t u : TO} (h : PO X e t) (i : ∀ σ H Q, u σ H Q → t σ H Q) : PO X e u := ⟨fun pins s σ H Q I q => h.run pins s σ H Q I (i σ H Q q)⟩
theorem PS.weaken {e : Stmt} {t u : TS} (h : PS X e t) (i : ∀ D σ H, u D σ H → t D σ H) : PS X e u := ⟨fun pins s σ H D I q => h.run pins s σ H D I (i D σ H q)⟩
theorem PSs.weaken {e : List Stmt} {t u : TS} (h : PSs X e t) (i : ∀ D σ H, u D σ H → t D σ H) : PSs X e u := ⟨fun pins s σ H D I q => h.run pins s σ H D I (i D σ H q)⟩
end

/-! ### calls of defs -/
def spC (K : Kx) (m : List D → M D) : List V → Hp → VK → Prop := fun vs H Q => ∃ (W : Wd) (ds : List D), W.H = H ∧ W.Ok K ∧ W.Rps K vs ds ∧ Yl K W (m ds) (fun W' v d => W'.Rp K v d) Q
/-- the def at f does what m says -/
structure FnC (P : Program) (w : World) (K : PySem.W.Frag) (mg : Str → Option Value) (base : Heap) (k : Nat) (f : Addr) (fd : FuncData) (ps : List Str) (m : List D → M D) : Prop where
  go : ∀ (A : Around) (outer : List Env) (s : Shared) (H : Hp) (args : Args) (us : List Value) (vs : List V) (Q : VK), Room k A → A.guards = some [] → Env0 P w K mg base A outer s H →
    BindsTo s fd args (ps.zip us) → Vals vs us → vs.length = ps.length → spC ⟨K, P, w⟩ m vs H Q → codeAny (model P w) A (.call (.ref f) args) (CR CX0 outer P w H s Q E0) s
/-- the defs and constants that a text may name -/
structure Fs (g : Cf) (q : Ck) (k : Nat) (X : Cx) : Prop where
  gl : ∀ (j : Nat) x, q.gls[j]? = some x → ∃ d v u, g.gl[j]? = some d ∧ X.mg x = some u ∧ RelV v u ∧ ∀ F io, Rep X.kx F io v d
  fn : ∀ (j : Nat) x n, q.fns[j]? = some (x, n) → ∃ m f fd ps, g.fn[j]? = some m ∧ X.mg x = some (.ref f) ∧ PySem.W.keepIn X.kx (.ref f) = true ∧ FnC X.prog X.w X.K X.mg X.base k f fd ps m ∧ Binds X.kx fd ps [] ∧ ps.length = n
  rm : Room k X.A
section
variable {X : Cx} {k : Nat} {f : Addr} {fd : FuncData} {ps : List Str} {m : List D → M D} {x : Str} {p pos : Pos} {t : TA}
theorem run_C {pins : List (Addr × Obj)} {σ : L2.St} {H : Hp} {s : Shared} {Q : VK} {us : List Value} {vs : List V} (F : FnC X.prog X.w X.K X.mg X.base k f fd ps m) (hr : Room k X.A) (hg : X.A.guards = some []) (hb : Binds X.kx fd ps [])
    (I : Inv X pins σ H s) (r : Vals vs us) (hl : vs.length = ps.length) (h : spC X.kx m vs H Q) : wpAny (model X.prog X.w) X.A (call (.ref f) us) (L2.EP X pins σ Q) X.xe s := by
  have bd := hb s us I.kIn (by rw [List.append_nil, ← r.length]; exact hl)
  rw [List.append_nil] at bd
  refine wpAny_call (codeAny_mono (F.go X.A X.stack s H ⟨us, []⟩ us vs Q hr hg I.env0 bd r hl h) fun z s' hq => ?_)
  cases z with
  | error e => exact (show False from hq).elim
  | ok fl => cases fl with
    | ret u => exact I.after hq
    | _ => exact (show False from hq).elim
def tCallC (K : Kx) (m : List D → M D) (t : TA) : TE := fun σ H Q => t σ H fun vs H1 => spC K m vs H1 Q
theorem pe_C {es : List Expr} (F : FnC X.prog X.w X.K X.mg X.base k f fd ps m) (hr : Room k X.A) (hgd : X.A.guards = some []) (hg : Gl X x) (hm : X.mg x = some (.ref f)) (hk : PySem.W.keepIn X.kx (.ref f) = true) (hb : Binds X.kx fd ps [])
    (hn : es.length = ps.length) (ha : PA X es t) (hl : ∀ σ H Q, t σ H Q → t σ H fun vs H1 => vs.length = es.length ∧ Q vs H1) (h0 : es = [] → ∀ σ H Q, t σ H Q → Q [] H) (hs : es.all noStar = true) (hdb : (x == ("__debug__" : Str)) = false) : PE X (.Call (.Name x p) es [] pos) (tCallC X.kx m t) := by
  refine ⟨fun pins s σ H Q I h => ?_⟩
  have h := hl σ H _ h
  cases es with
  | nil =>
    refine wpAny_Call_Name_kw (ld_glob I hg hm ?_ hdb)
    obtain ⟨l0, q⟩ := h0 rfl σ H _ h
    exact PySem.W.callWith_K0 I.kIn hk (run_C (us := []) (vs := []) F hr hgd hb I .nil hn q)
  | cons e es =>
    rw [List.all_cons, Bool.and_eq_true] at hs
    refine wpAny_Call_Name_kw (ld_glob I hg hm ?_ hdb)
    refine PySem.W.callWith_K (h₀ := X.base) I.ok.mod.kin hk (thn (ha.run pos pins s σ H _ I h) fun us s1 ⟨vs, H1, I1, r, l1, q⟩ => ⟨I1.kIn, ?_⟩) (star_each hs.1 es X.env) (star_any pos X.env hs.2)
    exact run_C F hr hgd hb I1 r (by rw [l1]; exact hn) q
end
/-- a slot for a new list, for a value -/
def slL : Bool → D → Option Sl
  | false, d => some (.val d)
  | true, .lst xs => some (.own (.ol xs))
  | true, _ => none
/-- what a zip may go over -/
def seqZ : D → Option (List D)
  | .lst xs => some xs
  | .tup xs => some xs
  | _ => none
/-! ### what a statement does -/
section
variable (K : Kx)
def EndsOk (W0 W : Wd) (fl : Fl) (en' : En) (S' : Sto) (D : Ends) : Prop := match fl with
  | .nx => ∀ W' σ', W'.Ok K → Le W0 W' → Lw W W' → EnOk K W0 W' en' σ' → W'.S = S' → D.nx σ' W'.H
  | .brk => ∀ W' σ', W'.Ok K → Le W0 W' → Lw W W' → EnOk K W0 W' en' σ' → W'.S = S' → D.bk σ' W'.H
  | .ct => ∀ W' σ', W'.Ok K → Le W0 W' → Lw W W' → EnOk K W0 W' en' σ' → W'.S = S' → D.ct σ' W'.H
  | .ret d => ∀ W' v, W'.Ok K → Le W0 W' → Lw W W' → W'.S = S' → W'.Rp K v d → D.rt v W'.H
def tS (W0 : Wd) (m : En → M (Fl × En)) : TS := fun D σ H => ∃ W en fl en' S', W.H = H ∧ W.Ok K ∧ Le W0 W ∧ EnOk K W0 W en σ ∧ m en W.S = some ((fl, en'), S') ∧ EndsOk K W0 W fl en' S' D
end
/-! ### what may be added without touching the core -/
def seqM : List (En → M D) → En → M (List D)
  | [], _ => M.ret []
  | m :: ms, en => M.bnd (m en) fun d => M.bnd (seqM ms en) fun ds => M.ret (d :: ds)
/-- an operand is walked; one marked may be a name's own container -/
def OpK (X : Cx) (b : Bool) (e : Expr) (m : En → M D) : Prop := match b with
  | true => PE X e (tR X.kx m)
  | false => PE X e (tM X.kx m)
def OpsOk (X : Cx) : List Bool → List Expr → List (En → M D) → Prop
  | [], [], [] => True
  | b :: bs, e :: es, m :: ms => OpK X b e m ∧ OpsOk X bs es ms
  | _, _, _ => False
/-- an expression -/
structure Prim where
  fl : List Bool
  mt : Ck → Zs → Expr → Option (List Expr)
  sem : Cf → List D → M D
  snd : ∀ {g : Cf} {q : Ck} {k : Nat} (z : Zs) (X : Cx) (e : Expr) (l : List Expr) (ms : List (En → M D)), Gd q z X → Fs g q k X → mt q z e = some l → OpsOk X fl l ms → PE X e (tM X.kx fun en => M.bnd (seqM ms en) (sem g))
/-- what is walked; in a comprehension only (cp) -/
structure PrimW where
  cp : Bool
  fl : List Bool
  mt : Ck → Zs → Expr → Expr → Option (List Expr)
  sem : Cf → List D → M (List D)
  snd : ∀ {g : Cf} {q : Ck} {k : Nat} (z : Zs) (X : Cx) (tg e : Expr) (l : List Expr) (ms : List (En → M D)), Gd q z X → Fs g q k X → mt q z tg e = some l → OpsOk X fl l ms → PI X tg e (tIM (if cp then Le else Lw) X.kx fun en => M.bnd (seqM ms en) (sem g))
/-- a statement -/
structure PrimS where
  fl : List Bool
  mt : Ck → Zs → Stmt → Option (List Expr)
  sem : Cf → List D → En → M En
  snd : ∀ {g : Cf} {q : Ck} {k : Nat} (z : Zs) (X : Cx) (s : Stmt) (l : List Expr) (ms : List (En → M D)), Gd q z X → Fs g q k X → mt q z s = some l → OpsOk X fl l ms →
    ∀ W0, PS X s (tS X.kx W0 fun en => M.bnd (seqM ms en) fun ds => M.bnd (sem g ds en) fun en' => M.ret (.nx, en'))
/-! ### the core -/
mutual
inductive E where
  | var (i : Nat)
  | rd (i : Nat)
  | glo (j : Nat)
  | int (n : Int) | str (s : Str) | bl (b : Bool) | non
  | tup (es : Es) | lst (es : Es)
  | bin (o : Bo) (a b : E)
  | neg (a : E)
  | cmp (o : Co) (a b : E)
  | chn (o o2 : Co) (a b c : E)
  | and (a b : E) | or (a b : E) | not (a : E)
  | ife (c a b : E)
  | idx (a i : E)
  | sli (a : E) (lo hi : Oe)
  | rev (a : E)
  | isi (a : E) (T : String)
  | b1 (f : B1) (a : E)
  | m0 (m : M0) (a : E)
  | call (f : Nat) (es : Es)
  | lc1 (own : List Nat) (t : Tg) (it : Wi) (c : Oe) (e : E)
  | lc2 (own : List Nat) (t : Tg) (it : Wi) (c : Oe) (own1 : List Nat) (t1 : Tg) (it1 : Wi) (c1 : Oe) (e : E)
  | sc1 (own : List Nat) (t : Tg) (it : Wi) (c : Oe) (e : E)
  | fld (o : E) (k : Str)
  | mko (ks : List Str) (es : Es)
  | fldi (o : E) (i : Nat)
  | mkl (es : Es)
  | prim (p : Prim) (es : Es)
inductive Es where
  | n | c (e : E) (r : Es)
inductive Oe where
  | n | s (e : E)
inductive Wi where
  | sq (e : E)
  | rg1 (e : E) | rg2 (a b : E)
  | zip (f : Bool) (a b : E)
  | prim (p : PrimW) (es : Es)
end
inductive S where
  | set (t : Tg) (e : E)
  | setc (i : Nat) (e : E)
  | par (i j : Nat) (a b : E)
  | par3 (i j l : Nat) (a b c : E)
  | paro (i j : Nat) (oa ob : Bool) (a b : E)
  | brk | ct
  | ex (e : E)
  | seto (i : Nat) (e : E)
  | frz (i : Nat)
  | app (i : Nat) (e : E)
  | ext (i : Nat) (e : E)
  | put (i : Nat) (k e : E)
  | ife (c : E) (a b : List S)
  | whl (c : E) (b : List S)
  | frr (t : Tg) (it : Wi) (b : List S)
  | ret (e : E) | retn
  | setf (o : E) (k : Str) (e : E)
  | seti (o : E) (i : Nat) (e : E)
  | prim (p : PrimS) (es : Es)
  | pass
  | never

mutual
def ev (g : Cf) : E → En → M D
  | .var i, en => M.opt (getV en i)
  | .rd i, en => M.opt (rdE en i)
  | .glo j, _ => M.opt g.gl[j]?
  | .int n, _ => M.ret (.int n)
  | .str s, _ => M.ret (.str s)
  | .bl b, _ => M.ret (.bl b)
  | .non, _ => M.ret .non
  | .tup es, en => M.bnd (evs g es en) fun ds => M.ret (.tup ds)
  | .lst es, en => M.bnd (evs g es en) fun ds => M.ret (.lst ds)
  | .bin o a b, en => M.bnd (ev g a en) fun x => M.bnd (ev g b en) fun y => M.opt (binD o x y)
  | .neg a, en => M.bnd (ev g a en) fun x => M.bnd (isI x) fun i => M.ret (.int (-i))
  | .cmp o a b, en => M.bnd (ev g a en) fun x => M.bnd (ev g b en) fun y => M.bnd (M.opt (cmpD o x y)) fun r => M.ret (.bl r)
  | .chn o o2 a b c, en => M.bnd (ev g a en) fun x => M.bnd (ev g b en) fun y => M.bnd (M.opt (cmpD o x y)) fun r =>
      if r then M.bnd (ev g c en) fun z => M.bnd (M.opt (cmpD o2 y z)) fun q => M.ret (.bl q) else M.ret (.bl false)
  | .and a b, en => M.bnd (ev g a en) fun x => M.bnd (isB x) fun r => if r then ev g b en else M.ret (.bl false)
  | .or a b, en => M.bnd (ev g a en) fun x => M.bnd (isB x) fun r => if r then M.ret (.bl true) else ev g b en
  | .not a, en => M.bnd (ev g a en) fun x => M.bnd (M.opt (truD x)) fun r => M.ret (.bl (!r))
  | .ife c a b, en => M.bnd (evt g c en) fun r => if r then ev g a en else ev g b en
  | .idx a i, en => M.bnd (ev g a en) fun x => M.bnd (ev g i en) fun y => M.opt (idxD x y)
  | .sli a lo hi, en => M.bnd (ev g a en) fun x => M.bnd (evo g lo en) fun l => M.bnd (evo g hi en) fun h => M.opt (sliD x l h)
  | .rev a, en => M.bnd (ev g a en) fun x => M.opt (revD x)
  | .isi a T, en => M.bnd (ev g a en) fun x => M.bnd (M.opt (isiD x T)) fun r => M.ret (.bl r)
  | .b1 f a, en => M.bnd (ev g a en) fun x => M.opt (b1D f x)
  | .m0 m a, en => M.bnd (ev g a en) fun x => M.opt (m0D m x)
  | .call f es, en => M.bnd (evs g es en) fun ds => M.bnd (M.opt g.fn[f]?) fun h => h ds
  | .lc1 own t it c e, en => M.bnd (evi g it en) fun ds =>
      M.bnd (lcM (fun d => M.bnd (M.opt (asg t d (wipeE en own))) fun en2 => evc g c en2) (fun d => M.bnd (M.opt (asg t d (wipeE en own))) fun en2 => ev g e en2) ds) fun ys => M.ret (.lst ys)
  | .lc2 own t it c own1 t1 it1 c1 e, en => M.bnd (evi g it en) fun ds =>
      M.bnd (catM (fun d => M.bnd (M.opt (asg t d (wipeE en own))) fun en2 => evc g c en2) (fun d => M.bnd (M.opt (asg t d (wipeE en own))) fun en2 => M.bnd (evi g it1 en2) fun ds1 =>
        lcM (fun d1 => M.bnd (M.opt (asg t1 d1 (wipeE en2 own1))) fun en3 => evc g c1 en3) (fun d1 => M.bnd (M.opt (asg t1 d1 (wipeE en2 own1))) fun en3 => ev g e en3) ds1) ds) fun ys =>
      if ys.length ≤ sizeLine then M.ret (.lst ys) else M.no
  | .sc1 own t it c e, en => M.bnd (evi g it en) fun ds =>
      M.bnd (lcM (fun d => M.bnd (M.opt (asg t d (wipeE en own))) fun en2 => evc g c en2) (fun d => M.bnd (M.opt (asg t d (wipeE en own))) fun en2 => ev g e en2) ds) fun ys => M.opt ((setD ys).map .set)
  | .fld o k, en => M.bnd (ev g o en) fun x => M.bnd (isO x) fun n => getO n k
  | .mko ks es, en => M.bnd (evs g es en) fun ds => newO (.fl (zipKs ks ds))
  | .fldi o i, en => M.bnd (ev g o en) fun x => M.bnd (isO x) fun n => getI n i
  | .mkl es, en => M.bnd (evs g es en) fun ds => newO (.cel ds)
  | .prim p es, en => M.bnd (evs g es en) fun ds => p.sem g ds
/-- as a test -/
def evt (g : Cf) : E → En → M Bool
  | .cmp o a b, en => M.bnd (ev g a en) fun x => M.bnd (ev g b en) fun y => M.opt (cmpD o x y)
  | .chn o o2 a b c, en => M.bnd (ev g a en) fun x => M.bnd (ev g b en) fun y => M.bnd (M.opt (cmpD o x y)) fun r =>
      if r then M.bnd (ev g c en) fun z => M.opt (cmpD o2 y z) else M.ret false
  | .and a b, en => M.bnd (evt g a en) fun r => if r then evt g b en else M.ret false
  | .or a b, en => M.bnd (evt g a en) fun r => if r then M.ret true else evt g b en
  | .not a, en => M.bnd (evt g a en) fun r => M.ret (!r)
  | .var i, en => M.bnd (M.opt (getV en i)) fun x => M.opt (truD x)
  | .rd i, en => M.bnd (M.opt (rdE en i)) fun x => M.opt (truD x)
  | .idx a i, en => M.bnd (ev g a en) fun x => M.bnd (ev g i en) fun y => M.bnd (M.opt (idxD x y)) fun d => M.opt (truD d)
  | .bin o a b, en => M.bnd (ev g a en) fun x => M.bnd (ev g b en) fun y => M.bnd (M.opt (binD o x y)) fun d => M.opt (truD d)
  | .prim p es, en => M.bnd (evs g es en) fun ds => M.bnd (p.sem g ds) fun d => M.opt (truD d)
  | .bl b, _ => M.ret b
  | .isi a T, en => M.bnd (ev g a en) fun x => M.opt (isiD x T)
  | .b1 f a, en => M.bnd (ev g a en) fun x => M.bnd (M.opt (b1D f x)) fun y => M.opt (truD y)
  | .call f es, en => M.bnd (evs g es en) fun ds => M.bnd (M.opt g.fn[f]?) fun h => M.bnd (h ds) fun y => M.opt (truD y)
  | _, _ => M.no
/-- a comprehension's test -/
def evc (g : Cf) : Oe → En → M Bool
  | .n, _ => M.ret true
  | .s e, en => evt g e en
def evs (g : Cf) : Es → En → M (List D)
  | .n, _ => M.ret []
  | .c e r, en => M.bnd (ev g e en) fun x => M.bnd (evs g r en) fun xs => M.ret (x :: xs)
def evo (g : Cf) : Oe → En → M (Option Int)
  | .n, _ => M.ret none
  | .s e, en => M.bnd (ev g e en) fun x => M.bnd (isI x) fun i => M.ret (some i)
/-- the items that are walked -/
def evi (g : Cf) : Wi → En → M (List D)
  | .sq e, en => M.bnd (ev g e en) fun x => M.opt (seqD x)
  | .rg1 e, en => M.bnd (ev g e en) fun x => M.bnd (isI x) fun i => if rgOk i then M.ret (rangeD 0 i) else M.no
  | .rg2 a b, en => M.bnd (ev g a en) fun x => M.bnd (isI x) fun i => M.bnd (ev g b en) fun y => M.bnd (isI y) fun j => if rgOk i && rgOk j then M.ret (rangeD i j) else M.no
  | .zip f a b, en => M.bnd (ev g a en) fun x => M.bnd (ev g b en) fun y => M.bnd (M.opt (seqZ x)) fun xs => M.bnd (M.opt (seqZ y)) fun ys => if zOk f xs ys then M.ret (zipD xs ys) else M.no
  | .prim p es, en => M.bnd (evs g es en) fun ds => p.sem g ds
end


mutual
def st (g : Cf) : S → En → M (Fl × En)
  | .set t e, en => M.bnd (ev g e en) fun d => M.bnd (M.opt (asg t d en)) fun en1 => M.ret (.nx, en1)
  | .setc i e, en => M.bnd (ev g e en) fun d => M.bnd (M.opt (asg (.nm i) d en)) fun en1 => M.ret (.nx, en1)
  | .brk, en => M.ret (.brk, en)
  | .ct, en => M.ret (.ct, en)
  | .par3 i j l a b c, en => M.bnd (ev g a en) fun x => M.bnd (ev g b en) fun y => M.bnd (ev g c en) fun w => if i < en.length && j < en.length && l < en.length then M.ret (.nx, setV (setV (setV en i x) j y) l w) else M.no
  | .par i j a b, en => M.bnd (ev g a en) fun x => M.bnd (ev g b en) fun y => if i < en.length && j < en.length then M.ret (.nx, setV (setV en i x) j y) else M.no
  | .paro i j oa ob a b, en => M.bnd (ev g a en) fun x => M.bnd (ev g b en) fun y => M.bnd (M.opt (slL oa x)) fun sx => M.bnd (M.opt (slL ob y)) fun sy =>
      if i < en.length && j < en.length then M.ret (.nx, (en.set i sx).set j sy) else M.no
  | .ex e, en => M.bnd (ev g e en) fun _ => M.ret (.nx, en)
  | .seto i e, en => M.bnd (ev g e en) fun d => M.bnd (isL d) fun xs => if i < en.length then M.ret (.nx, en.set i (.own (.ol xs))) else M.no
  | .frz i, en => M.bnd (M.opt (frzE en i)) fun en1 => M.ret (.nx, en1)
  | .app i e, en => M.bnd (ev g e en) fun d => M.bnd (M.opt (appE en i d)) fun en1 => M.ret (.nx, en1)
  | .ext i e, en => M.bnd (ev g e en) fun d => M.bnd (isL d) fun ds => M.bnd (M.opt (extE en i ds)) fun en1 => M.ret (.nx, en1)
  | .put i k e, en => M.bnd (ev g e en) fun d => M.bnd (ev g k en) fun x => M.bnd (M.opt (putE en i x d)) fun en1 => M.ret (.nx, en1)
  | .ife c a b, en => M.bnd (evt g c en) fun t => if t then sts g a en else sts g b en
  | .whl c b, en => whlM (fun en1 => evt g c en1) (fun en1 => sts g b en1) FUEL en
  | .frr t it b, en => M.bnd (evi g it en) fun ds => forM (fun d en1 => M.opt (asg t d en1)) (fun en1 => sts g b en1) ds en
  | .ret e, en => M.bnd (ev g e en) fun d => M.ret (.ret d, en)
  | .retn, en => M.ret (.ret .non, en)
  | .setf o k e, en => M.bnd (ev g e en) fun d => M.bnd (ev g o en) fun x => M.bnd (isO x) fun n => M.bnd (setO n k d) fun _ => M.ret (.nx, en)
  | .seti o i e, en => M.bnd (ev g e en) fun d => M.bnd (ev g o en) fun x => M.bnd (isO x) fun n => M.bnd (setI n i d) fun _ => M.ret (.nx, en)
  | .prim p es, en => M.bnd (evs g es en) fun ds => M.bnd (p.sem g ds en) fun en1 => M.ret (.nx, en1)
  | .pass, en => M.ret (.nx, en)
  | .never, _ => M.no
def sts (g : Cf) : List S → En → M (Fl × En)
  | [], en => M.ret (.nx, en)
  | s :: r, en => M.bnd (st g s en) fun q => match q.1 with
    | .nx => sts g r q.2
    | _ => M.ret q
end
/-- a def: its names' number, its body -/
structure Df where
  n : Nat
  body : List S
def startE (n : Nat) (ds : List D) : En := ds.map Sl.val ++ List.replicate (n - ds.length) .no
def run (g : Cf) (f : Df) (k : Nat) (ds : List D) : M D := if ds.length = k then M.bnd (sts g f.body (startE f.n ds)) fun r => match r.1 with
  | .nx => M.ret .non
  | .ret d => M.ret d
  | _ => M.no else M.no

section
variable (K : Kx) (g : Cf)
def tE (c : E) : TE := tM K fun en => ev g c en
def tT (c : E) : TT := fun σ H Q => At K σ H fun W en => Yl K W (evt g c en) (fun _ v d => v = d) Q
def tEs (c : Es) : TA := fun σ H Q => At K σ H fun W en => Yl K W (evs g c en) (fun W' v d => W'.Rps K v d) Q
def tI (c : Wi) : TI := tIM Lw K fun en => evi g c en
/-- walked in a comprehension -/
def tIc (c : Wi) : TI := tIM Le K fun en => evi g c en
end
end Cv

/-! Cv8: objects with fields. -/
namespace Cv
open PySem PySem.Spec PyProof.Rows L2
section
variable {K : Kx}
theorem flds_look {F : Hp} {io : List Addr} {k : Str} {d : D} : ∀ {fs : List (Str × D)} {kvs : List (Key × V)}, Flds K F io fs kvs → look k fs = some d → ∃ v, valV kvs (Sum.inr k : Key) = some v ∧ Rep K F io v d
  | _, _, .nil, h => nomatch h
  | _, _, .cons (k := s) (d := x) r t, h => by
    have h : (if s = k then some x else look k _) = some d := h
    by_cases e : s = k
    · rw [if_pos e] at h
      cases h
      exact ⟨_, valV_pos (show (Sum.inr s : Key) = Sum.inr k by rw [e]), r⟩
    · rw [if_neg e] at h
      obtain ⟨v, h1, h2⟩ := flds_look t h
      exact ⟨v, by rw [valV_neg (show ¬ (Sum.inr s : Key) = Sum.inr k from fun z => e (Sum.inr.inj z))]; exact h1, h2⟩
theorem putK_any {k : Key} {v x : V} {kvs : List (Key × V)} (h : valV kvs k = some x) : putK kvs k v = kvs.map fun kv => if kv.1 = k then (kv.1, v) else kv := by
  unfold putK
  rw [if_pos (by rw [valV_any, h]; rfl)]
theorem map_off {k : Key} {v : V} : ∀ {kvs : List (Key × V)}, (∀ p ∈ kvs, p.1 ≠ k) → (kvs.map fun kv => if kv.1 = k then (kv.1, v) else kv) = kvs
  | [], _ => rfl
  | p :: r, h => by
    rw [List.map_cons, if_neg (h p List.mem_cons_self), map_off fun q hq => h q (List.mem_cons_of_mem _ hq)]
theorem flds_keys {F : Hp} {io : List Addr} : ∀ {fs : List (Str × D)} {kvs : List (Key × V)}, Flds K F io fs kvs → kvs.map (·.1) = fs.map fun p => (Sum.inr p.1 : Key)
  | _, _, .nil => rfl
  | _, _, .cons r t => by rw [List.map_cons, List.map_cons, flds_keys t]
theorem flds_put {F : Hp} {io : List Addr} {k : Str} {d x : D} {v : V} (rv : Rep K F io v d) : ∀ {fs : List (Str × D)} {kvs : List (Key × V)}, Flds K F io fs kvs → (fs.map (·.1)).Nodup → look k fs = some x →
    Flds K F io (putF k d fs) (kvs.map fun kv => if kv.1 = (Sum.inr k : Key) then (kv.1, v) else kv)
  | _, _, .nil, _, h => nomatch h
  | _, _, .cons (k := s) (d := y) (fs := fs) (kvs := kvs) r t, hn, h => by
    have h : (if s = k then some y else look k fs) = some x := h
    rw [List.map_cons, List.nodup_cons] at hn
    show Flds K F io (if s = k then (s, d) :: fs else (s, y) :: putF k d fs) _
    by_cases e : s = k
    · rw [if_pos e, List.map_cons, if_pos (show (Sum.inr s : Key) = Sum.inr k by rw [e])]
      rw [map_off]
      · exact .cons rv t
      · intro p hp z
        have hk := flds_keys t
        have hm : p.1 ∈ kvs.map (·.1) := List.mem_map_of_mem hp
        rw [hk, z] at hm
        obtain ⟨q', hq, hq2⟩ := List.mem_map.mp hm
        have e2 : q'.1 = k := Sum.inr.inj hq2
        have hm2 := List.mem_map_of_mem (f := fun p : Str × D => p.1) hq
        rw [e2] at hm2
        exact hn.1 (by rw [e]; exact hm2)
    · rw [if_neg e] at h ⊢
      rw [List.map_cons, if_neg (show ¬ (Sum.inr s : Key) = Sum.inr k from fun z => e (Sum.inr.inj z))]
      exact .cons r (flds_put rv t hn.2 h)
theorem merge_nd : ∀ (kvs acc : List (Key × V)), (kvs.map (·.1)).Nodup → (∀ p ∈ kvs, valV acc p.1 = none) → mergeK acc kvs = acc ++ kvs
  | [], acc, _, _ => by simp [mergeK]
  | p :: r, acc, hn, h => by
    rw [List.map_cons, List.nodup_cons] at hn
    have e : putK acc p.1 p.2 = acc ++ [p] := by
      unfold putK
      rw [if_neg (by rw [valV_any, h p List.mem_cons_self]; simp)]
    show mergeK (putK acc p.1 p.2) r = _
    rw [e, merge_nd r _ hn.2]
    · simp
    · intro z hz
      have hne : ¬ p.1 = z.1 := fun q => hn.1 (by rw [q]; exact List.mem_map_of_mem hz)
      have h1 := h z (List.mem_cons_of_mem _ hz)
      have e1 : (acc.any fun kv => decide (kv.1 = z.1)) = false := by
        have := valV_any z.1 acc
        rw [h1] at this
        exact this
      have e2 : ((acc ++ [p]).any fun kv => decide (kv.1 = z.1)) = false := by
        rw [List.any_append, e1]
        simp [hne]
      have e3 := valV_any z.1 (acc ++ [p])
      rw [e2] at e3
      cases q : valV (acc ++ [p]) z.1 with
      | none => rfl
      | some o => rw [q] at e3; cases e3
theorem Wd.Ok.alive {W : Wd} (ok : W.Ok K) {a : Addr} (h : a ∈ W.io) : ∃ ho, W.H a = some ho ∧ W.F a = none := by
  obtain ⟨n, hn, e⟩ := List.getElem_of_mem h
  have hl : n < W.S.length := by rw [ok.le]; exact hn
  obtain ⟨b, ho, h1, h2, h3, _⟩ := ok.ob n _ (List.getElem?_eq_getElem hl)
  have e2 : W.io[n]? = some a := by rw [List.getElem?_eq_getElem hn, e]
  rw [e2] at h1
  cases h1
  exact ⟨ho, h2, h3⟩
/-- a thing that is no object's and not frozen -/
def Wd.ad (W : Wd) (p : Addr) (o : HO) : Wd := { W with H := upd W.H p o }
theorem le_ad {W : Wd} {p : Addr} {o : HO} (h : W.H p = none) : Le W (W.ad p o) := by
  refine ⟨fun a u e => e, fun a u e _ => ?_, fun a u e n => n, fun a e => ?_, [], by simp [Wd.ad], fun a z => by cases z⟩
  · show upd W.H p o a = some u
    rw [upd_ne (ne_of_none e h)]; exact e
  · have e' : upd W.H p o a = none := e
    by_cases z : a = p
    · rw [z]; exact h
    · rw [upd_ne z] at e'; exact e'
theorem ok_ad {W : Wd} (ok : W.Ok K) {p : Addr} {o : HO} (h : W.H p = none) : (W.ad p o).Ok K := by
  refine ⟨fun a u e => ?_, fun n fs e => ?_, ok.le, ok.nd⟩
  · show upd W.H p o a = some u
    have e2 := ok.ex a u e
    rw [upd_ne (ne_of_none e2 h)]; exact e2
  · obtain ⟨a, ho, h1, h2, h3, h4⟩ := ok.ob n fs e
    refine ⟨a, ho, h1, ?_, h3, h4⟩
    show upd W.H p o a = _
    rw [upd_ne (ne_of_none h2 h)]; exact h2
/-- a new object: the thing at p becomes it -/
def Wd.nw (W : Wd) (p : Addr) (fs : Ob) (ho : HO) : Wd := { F := W.F, io := W.io ++ [p], S := W.S ++ [fs], H := upd W.H p ho }
theorem ok_nw {W : Wd} (ok : W.Ok K) {p : Addr} {fs : Ob} {ho : HO} (hF : W.F p = none) (hi : p ∉ W.io) (hf : ObAt K W.F W.io ho fs) : (W.nw p fs ho).Ok K := by
  have hix : ∀ (n : Nat) a, W.io[n]? = some a → (W.io ++ [p])[n]? = some a := fun n a h => by
    rw [List.getElem?_append_left (List.getElem?_eq_some_iff.mp h).1]; exact h
  refine ⟨fun a u e => ?_, fun n gs e => ?_, ?_, ?_⟩
  · show upd W.H p _ a = some u
    have e2 := ok.ex a u e
    have ne : a ≠ p := fun z => by rw [z] at e; rw [show W.F p = some u from e] at hF; cases hF
    rw [upd_ne ne]; exact e2
  · by_cases hn : n < W.S.length
    · have e2 : W.S[n]? = some gs := by
        have e' : (W.S ++ [fs])[n]? = some gs := e
        rw [List.getElem?_append_left hn] at e'; exact e'
      obtain ⟨a, ho', h1, h2, h3, h4⟩ := ok.ob n gs e2
      have ne : a ≠ p := fun z => hi (by rw [← z]; exact List.mem_of_getElem? h1)
      refine ⟨a, ho', hix _ _ h1, ?_, h3, h4.mono (fun _ _ h => h) hix⟩
      show upd W.H p _ a = _
      rw [upd_ne ne]; exact h2
    · have e' : (W.S ++ [fs])[n]? = some gs := e
      rw [List.getElem?_append_right (Nat.not_lt.mp hn)] at e'
      have hn0 : n - W.S.length = 0 := by
        have := (List.getElem?_eq_some_iff.mp e').1
        simp at this
        omega
      rw [hn0] at e'
      have eg : fs = gs := Option.some.inj e'
      subst eg
      have en : n = W.io.length := by rw [← ok.le]; omega
      refine ⟨p, ho, ?_, upd_same, hF, hf.mono (fun _ _ h => h) hix⟩
      show (W.io ++ [p])[n]? = some p
      rw [en, List.getElem?_append_right (Nat.le_refl _)]
      simp
  · show (W.S ++ [fs]).length = (W.io ++ [p]).length
    rw [List.length_append, List.length_append, ok.le]
    rfl
  · show (W.io ++ [p]).Nodup
    rw [List.nodup_append]
    refine ⟨ok.nd, by simp, fun a ha b hb z => ?_⟩
    have : b = p := by simpa using hb
    rw [z, this] at ha
    exact hi ha
/-- an object's field gets another value -/
def Wd.st (W : Wd) (n : Nat) (a : Addr) (fs : Ob) (ho : HO) : Wd := { W with S := W.S.set n fs, H := upd W.H a ho }
theorem ok_st {W : Wd} (ok : W.Ok K) {n : Nat} {a : Addr} {fs : Ob} {ho : HO} (hn : n < W.S.length) (ha : W.io[n]? = some a) (hf : ObAt K W.F W.io ho fs) : (W.st n a fs ho).Ok K := by
  obtain ⟨kv0, hp, hF⟩ := ok.alive (List.mem_of_getElem? ha)
  refine ⟨fun b u e => ?_, fun m gs e => ?_, ?_, ok.nd⟩
  · show upd W.H a _ b = some u
    have e2 := ok.ex b u e
    have ne : b ≠ a := fun z => by rw [z] at e; rw [show W.F a = some u from e] at hF; cases hF
    rw [upd_ne ne]; exact e2
  · have e' : (W.S.set n fs)[m]? = some gs := e
    by_cases z : n = m
    · subst z
      rw [get_set_eq hn] at e'
      cases e'
      exact ⟨a, ho, ha, upd_same, hF, hf⟩
    · rw [List.getElem?_set_ne z] at e'
      obtain ⟨b, ho', h1, h2, h3, h4⟩ := ok.ob m gs e'
      have ne : b ≠ a := fun q => by
        subst q
        obtain ⟨l1, g1⟩ := List.getElem?_eq_some_iff.mp ha
        obtain ⟨l2, g2⟩ := List.getElem?_eq_some_iff.mp h1
        exact z ((List.getElem_inj ok.nd).mp (g1.trans g2.symm))
      refine ⟨b, ho', h1, ?_, h3, h4⟩
      show upd W.H a _ b = _
      rw [upd_ne ne]; exact h2
  · show (W.S.set n fs).length = W.io.length
    rw [List.length_set]; exact ok.le
theorem le_st {W : Wd} (ok : W.Ok K) {n : Nat} {a : Addr} {fs : Ob} {ho : HO} (ha : W.io[n]? = some a) : Le W (W.st n a fs ho) := by
  have hm := List.mem_of_getElem? ha
  refine ⟨fun _ _ e => e, fun b o e hb => ?_, fun _ _ _ h => h, fun b e => ?_, [], by simp [Wd.st], fun _ z => by cases z⟩
  · show upd W.H a _ b = some o
    rw [upd_ne (fun z => hb (by rw [z]; exact hm))]; exact e
  · have e' : upd W.H a ho b = none := e
    by_cases z : b = a
    · rw [z, upd_same] at e'; cases e'
    · rw [upd_ne z] at e'; exact e'
end
end Cv

/-! Cv9: the look at expressions, and that it tells the truth. -/
namespace Cv
open PySem PySem.Spec PyProof.Rows L2

def ownOf (N : List Str) : List Nat → List (Str × Nat)
  | [] => []
  | i :: r => (N.getD i Str.empty, i) :: ownOf N r
theorem ownOf_ix (N : List Str) : ∀ own : List Nat, (ownOf N own).map (·.2) = own
  | [] => rfl
  | i :: r => by rw [ownOf, List.map_cons, ownOf_ix N r]
def constB (c : Const) (k : Str) : Bool := match c with
  | .str s => decide (s = k)
  | _ => false
def keyB : List Str → List (Option Expr) → Bool
  | [], [] => true
  | k :: ks, some e :: es => (match vConst e with
    | some c => constB c k
    | none => false) && keyB ks es
  | _, _ => false
def isTup : Expr → Bool
  | .Tuple _ _ _ => true
  | _ => false
def tyNames : List (String × Str) := [("int", "int"), ("bool", "bool"), ("str", "str"), ("tuple", "tuple"), ("list", "list"), ("dict", "dict")]
def tyNm (T : String) : Option Str := tyNames.lookup T
def ntupB (e : Expr) : Bool := match vUn e with
  | some (.USub, x) => (match vConst x with
    | some (.int 1) => true
    | _ => false)
  | _ => false
section
variable {prog : Program} {w : World} {A : Around} {E0 : Value → Shared → Prop} {s : Shared}
theorem slice_back {sl : Addr} {vs : Value} {n : Nat} {Q : Int × Int × Nat → Shared → Prop} (hs : s.heap.IsSliceOf sl .none .none vs) (ps : IsPart vs (some (-1))) (h : Q ((n : Int) - 1, -1, n) s) :
    wpAny (model prog w) A (Builtin.Slice.sliceApplied (.ref sl) (pure (n : Int))) Q E0 s := by
  obtain ⟨o, g1, g2, g3⟩ := id hs
  have adj : Builtin.Slice.sliceAdjust none none (-1) (n : Int) = ((n : Int) - 1, -1) := rfl
  have plc : Builtin.Slice.slicePlaces ((n : Int) - 1) (-1) (-1) = n := by
    unfold Builtin.Slice.slicePlaces
    have e1 : ¬ ((-1 : Int) > 0) := by decide
    have e2 : (-(-1) : Int) = 1 := by decide
    simp only [e1, if_false, e2, Int.ediv_one]
    split <;> omega
  unfold Builtin.Slice.sliceApplied Builtin.Slice.sliceFields
  refine wpAny_bind (wpAny_bind (wpAny_field g1 g3 (x := .none) rfl (wpAny_bind (wpAny_field g1 g3 (x := .none) rfl (wpAny_bind (wpAny_field g1 g3 (x := vs) rfl (wpAny_pure ?_)))))))
  refine wpAny_bind (HT.slicePart_ ps ?_)
  show wpAny _ _ (if ((-1 : Int) == 0) = true then _ else _) _ _ s
  rw [if_neg (by decide)]
  refine wpAny_bind (HT.slicePart_ .none (wpAny_bind (HT.slicePart_ .none (wpAny_bind (wpAny_pure ?_)))))
  show wpAny _ _ (match Builtin.Slice.sliceAdjust none none (-1) (n : Int) with | (lo, hi) => pure (lo, (-1 : Int), Builtin.Slice.slicePlaces lo hi (-1))) _ _ s
  rw [adj]
  show wpAny _ _ (pure ((n : Int) - 1, (-1 : Int), Builtin.Slice.slicePlaces ((n : Int) - 1) (-1) (-1))) _ _ s
  rw [plc]
  exact wpAny_pure h
theorem fm_congr {α β : Type} {f h : α → Option β} : ∀ {l : List α}, (∀ x ∈ l, f x = h x) → l.filterMap f = l.filterMap h
  | [], _ => rfl
  | x :: xs, q => by
    rw [List.filterMap_cons, List.filterMap_cons, q x List.mem_cons_self, fm_congr fun y hy => q y (List.mem_cons_of_mem _ hy)]
theorem pick_back (xs : Array Value) : ((List.range xs.size).filterMap fun (m : Nat) => xs[((xs.size : Int) - 1 + (m : Int) * (-1)).toNat]?).toArray = xs.toList.reverse.toArray := by
  have e : (List.range xs.size).filterMap (fun (m : Nat) => xs[((xs.size : Int) - 1 + (m : Int) * (-1)).toNat]?) = (List.range xs.size).filterMap ((fun i => xs[i]?) ∘ fun k => xs.size - 1 - k) := by
    refine fm_congr fun m hm => ?_
    have := List.mem_range.mp hm
    have e2 : ((xs.size : Int) - 1 + (m : Int) * (-1)).toNat = xs.size - 1 - m := by omega
    rw [e2]
    rfl
  rw [e, ← List.filterMap_map, PySem.W.krv_range, List.filterMap_reverse, PySem.W.krv_all]
theorem tuple_back {t sl : Addr} {items : Array Value} {vs : Value} {Q : Value → Shared → Prop} (ht : IsTup s.heap t items) (hs : s.heap.IsSliceOf sl .none .none vs) (ps : IsPart vs (some (-1)))
    (h : Q (.ref s.heap.objs.size) { s with heap := s.heap.push { cls := .type "tuple", data := .seq items.toList.reverse.toArray } }) (hz : items.size ≤ sizeLine) : wpAny (model prog w) A (getItem (.ref t) (.ref sl)) Q E0 s := by
  have big : sizeOk (.seq items.toList.reverse.toArray) := by
    show items.toList.reverse.toArray.size ≤ sizeLine
    rw [List.size_toArray, List.length_reverse, Array.length_toList]
    exact hz
  obtain ⟨o, g1, g2, g3⟩ := id hs
  have tsl : s.TypeIs (.ref sl) "slice" := ⟨o, g1, g2⟩
  unfold getItem
  try with_reducible refine wpAny_holding ?_
  first | refine wpAny_bind (wpAny_pure ?_) | skip
  refine wpAny_bind (wpAny_sequenceKey ht.typeIs (by decide) ?_)
  refine wpAny_bind (wpAny_callSpecial?_slot (name := Str.ofString "__getitem__") ht.typeIs PyProof.Rows.slot_tuple_getitem (wpAny_call_entry PyProof.Rows.slot_tuple_getitem ht.typeIs entry_tuple_getitem ?_ (args_tuple_getitem _ _)))
  show wpAny _ _ (Builtin.Tuple.tupleItemsOf (.ref t) >>= _) _ _ s
  refine wpAny_bind (tupleItemsOf_ ht ?_)
  refine wpAny_bind (wpAny_typeOf tsl ?_)
  rw [if_pos (by decide)]
  refine wpAny_bind (slice_back hs ps ?_)
  have nz : ¬ (((items.size : Int) - 1 == 0 && (-1 : Int) == 1 && items.size == items.size) = true) := by
    rw [show ((-1 : Int) == 1) = false from by decide, Bool.and_false, Bool.false_and]
    exact Bool.false_ne_true
  show wpAny _ _ (if ((items.size : Int) - 1 == 0 && (-1 : Int) == 1 && items.size == items.size) = true then _ else _) _ _ s
  rw [if_neg nz, pick_back]
  first
    | exact wpAny_bind (m := Builtin.Tuple.tupleExact _) (wpAny_newObj_type (wpAny_pure ⟨_, rfl, wpAny_pure h⟩) big)
    | exact wpAny_bind (m := Builtin.Tuple.tupleExact _) (wpAny_newObj_type (wpAny_bind (wpAny_pure (wpAny_pure ⟨_, rfl, wpAny_pure h⟩))) big)
    | exact wpAny_bind (wpAny_bind (m := Builtin.Tuple.tupleExact _) (wpAny_newObj_type (wpAny_pure (wpAny_pure ⟨_, rfl, wpAny_pure h⟩)) big))
    | exact wpAny_bind (wpAny_bind (m := Builtin.Tuple.tupleExact _) (wpAny_newObj_type (wpAny_pure ⟨_, rfl, wpAny_pure h⟩) big))
end
/-- backwards: a list, a tuple -/
def tBack (K : Kx) (te : TE) : TE := fun σ H Q => te σ H fun x H1 => (∃ a xs, x = .ref a ∧ SqL K H1 a xs ∧ ∀ p, H1 p = none → Q (.ref p) (upd H1 p (.lst xs.reverse))) ∨ ∃ a xs, x = .ref a ∧ SqT K H1 a xs ∧ ∀ p o, o.dict = none → H1 p = none → Q (.ref p) (upd H1 p (.frz o (.tup xs.reverse)))
theorem pe_back {X : Cx} {e : Expr} {te : TE} {k : Nat} {p1 p2 p3 pos : Pos} (he : PE X e te) : PE X (.Subscript e (.Slice none none (some (.UnaryOp .USub (.Constant (.int 1) k p1) p2)) p3) pos) (tBack X.kx te) := by
  refine ⟨fun pins s σ H Q I h => ?_⟩
  refine Subscript_ (thn (he.run pins s σ H _ I h) fun v s1 ⟨x, H1, I1, r1, q1⟩ => ?_)
  have hst : PO X (some (.UnaryOp .USub (.Constant (.int 1) k p1) p2)) (tPart (tUn (rU fun i => .int (-i)) (tC (.int 1)))) := po_some (pe_un un_neg pe_int)
  refine wpAny_Slice (thn (po_none.run pins s1 σ H1 (fun o H2 => o = none ∧ H2 = H1) I1 ⟨rfl, rfl⟩) fun vl s2 ⟨l, H2, I2, pl, el, e2⟩ => ?_)
  subst el e2
  refine thn (po_none.run pins s2 σ H2 (fun o H3 => o = none ∧ H3 = H2) I2 ⟨rfl, rfl⟩) fun vu s3 ⟨u, H3, I3, pu, eu, e3⟩ => ?_
  subst eu e3
  refine thn (hst.run pins s3 σ H3 (fun o H4 => o = some (-1) ∧ H4 = H3) I3 ⟨1, rfl, -1, rfl, rfl, rfl⟩) fun vs s4 ⟨o, H4, I4, ps, eo, e4⟩ => ?_
  subst eo e4
  have I5 : Inv X pins σ H4 { s4 with heap := s4.heap.push { cls := .type "slice", data := .fields #[vl, vu, vs] } } := I4.kept (t' := s4.toks) fun b ob q => Heap.get?_push_of_some _ q
  cases pl
  cases pu
  rcases q1 with ⟨a, xs, rfl, hx, q⟩ | ⟨a, xs, rfl, hx, q⟩
  · cases r1
    obtain ⟨its, r, ht, hz⟩ := I5.list hx
    have hlen := r.length
    show wpAny (model X.prog X.w) X.A (subscriptTail e (.Slice none none (some (.UnaryOp .USub (.Constant (.int 1) k p1) p2)) p3) (.ref a) (.ref s4.heap.objs.size)) (L2.EP X pins σ Q) X.xe { s4 with heap := s4.heap.push { cls := .type "slice", data := .fields #[.none, .none, vs] } }
    refine tail_any (ops := [.ref a, .ref s4.heap.objs.size]) ht.isList.typeIs (PySem.slot_list_getitem.lookup) ?_ (by with_unfolding_all rfl)
    refine wpAny_getItem_list_slice ht.isList (Heap.IsSliceOf.new _ .none .none vs) .none .none ps (by decide) ?_ (by rw [List.size_toArray]; omega)
    rw [PySem.W.krv_pick]
    exact ⟨.ref _, _, I5.laid (t' := s4.toks) (o := .lst xs.reverse) (fun b ob q => Heap.get?_push_of_some _ q) (Nat.le_refl _) ⟨by rw [List.length_reverse]; exact hz, _, 0, r.reverse, Heap.get?_push_size _ rfl⟩, rfl, q _ (I5.hok.fresh (Nat.le_refl _))⟩
  · cases r1
    obtain ⟨its, r, ht, hz⟩ := I5.tuple hx
    have hlen := r.length
    show wpAny (model X.prog X.w) X.A (subscriptTail e (.Slice none none (some (.UnaryOp .USub (.Constant (.int 1) k p1) p2)) p3) (.ref a) (.ref s4.heap.objs.size)) (L2.EP X pins σ Q) X.xe { s4 with heap := s4.heap.push { cls := .type "slice", data := .fields #[.none, .none, vs] } }
    refine tail_any (ops := [.ref a, .ref s4.heap.objs.size]) ht.typeIs (PyProof.Rows.slot_tuple_getitem.lookup) ?_ (by with_unfolding_all rfl)
    refine tuple_back ht (Heap.IsSliceOf.new _ .none .none vs) ps ?_ (by rw [List.size_toArray]; omega)
    exact ⟨.ref _, _, I5.laid (t' := s4.toks) (o := .frz _ (.tup xs.reverse)) (fun b ob q => Heap.get?_push_of_some _ q) (Nat.le_refl _) ⟨Heap.get?_push_size _ rfl, by rw [List.length_reverse]; exact hz, _, by simpa using r.reverse, IsTup.new _ _⟩, rfl, q _ _ rfl (I5.hok.fresh (Nat.le_refl _))⟩
/-- zip(a, b), zip(a, b, strict=True) -/
def vZip : Expr → Option (Bool × Str × List Expr)
  | .Call (.Name x _) es [] _ => some (false, x, es)
  | .Call (.Name x _) es [⟨k, .Constant (.bool true) _ _, _⟩] _ => if k = some "strict" then some (true, x, es) else none
  | _ => none
def M0.nm : M0 → Str
  | .upper => "upper"
  | .items => "items"
mutual
def chk (q : Ck) : E → Bool → Zs → Expr → Bool
  | .var i, _, z, e => (match vName e with
    | some x => ixB q.N i x && visB z.sc x && nmB x
    | none => false)
  | .rd i, r, z, e => r && (match vName e with
    | some x => ixB q.N i x && visB z.sc x && nmB x
    | none => false)
  | .prim p es, _, z, e => (match p.mt q z e with
    | some l => chkP q es p.fl z l
    | none => false)
  | .glo j, _, z, e => (match vName e with
    | some x => decide (q.gls[j]? = some x) && glB z.sc x && nmB x
    | none => false)
  | .int n, _, _, e => (match vConst e with
    | some (.int m) => decide (m = n)
    | _ => false)
  | .str s, _, _, e => (match vConst e with
    | some c => constB c s
    | _ => false)
  | .bl b, _, _, e => (match vConst e with
    | some (.bool c) => b == c
    | _ => false)
  | .non, _, _, e => (match vConst e with
    | some .none => true
    | _ => false)
  | .tup es, _, z, e => (match vTuple e with
    | some l => decide (l.length ≤ 1000) && l.all noStar && chks q es z l
    | none => false)
  | .lst es, _, z, e => (match vList e with
    | some l => decide (l.length ≤ 1000) && l.all noStar && chks q es z l
    | none => false)
  | .bin o a b, _, z, e => (match vBin e with
    | some (x, p, y) => decide (p = o.op) && chk q a true z x && chk q b true z y
    | none => false)
  | .neg a, _, z, e => (match vUn e with
    | some (.USub, x) => chk q a false z x
    | _ => false)
  | .cmp o a b, _, z, e => (match vCmp e with
    | some (x, [p], [y]) => decide (p = o.op) && noSet y && chk q a true z x && chk q b true z y
    | _ => false)
  | .chn o o2 a b c, _, z, e => (match vCmp e with
    | some (x, [p, p2], [y, w]) => decide (p = o.op) && decide (p2 = o2.op) && noSet w && chk q a true z x && chk q b true z y && chk q c true z w
    | _ => false)
  | .and a b, _, z, e => (match vBool e with
    | some (.And, x :: y :: rest, pos) => chk q a false z x && (match rest with
      | [] => chk q b false z y
      | _ => chk q b false z (.BoolOp .And (y :: rest) pos))
    | _ => false)
  | .or a b, _, z, e => (match vBool e with
    | some (.Or, x :: y :: rest, pos) => chk q a false z x && (match rest with
      | [] => chk q b false z y
      | _ => chk q b false z (.BoolOp .Or (y :: rest) pos))
    | _ => false)
  | .not a, _, z, e => (match vUn e with
    | some (.Not, x) => chk q a false z x
    | _ => false)
  | .ife c a b, _, z, e => (match vIf e with
    | some (x, y, w) => chkT q c z x && chk q a false z y && chk q b false z w
    | none => false)
  | .idx a i, _, z, e => (match vSub e with
    | some (x, y) => !isSlice y && chk q a true z x && chk q i false z y
    | none => false)
  | .sli a lo hi, _, z, e => (match vSub e with
    | some (x, y) => (match vSlice y with
      | some (l, h, none) => chk q a true z x && chko q lo z l && chko q hi z h
      | _ => false)
    | none => false)
  | .rev a, _, z, e => (match vSub e with
    | some (x, .Slice none none (some (.UnaryOp .USub (.Constant (.int 1) _ _) _)) _) => chk q a true z x
    | _ => false)
  | .isi a T, _, z, e => (match vCall e with
    | some (f, [x, t]) => decide (f = "isinstance") && glB z.sc "isinstance" && noStar x && chk q a true z x && (match vName t with
      | some n => decide (tyNm T = some n) && glB z.sc n
      | none => false)
    | _ => false)
  | .b1 f a, _, z, e => (match vCall e with
    | some (n, [x]) => decide (n = f.nm) && glB z.sc n && noStar x && chk q a true z x
    | _ => false)
  | .m0 m a, _, z, e => (match vMeth0 e with
    | some (x, n, p1, p2) => decide (n = m.nm) && plainO x && (p1.endLine == p2.line) && chk q a false z x
    | none => false)
  | .call f es, _, z, e => (match vCall e with
    | some (n, l) => decide (q.fns[f]? = some (n, l.length)) && glB z.sc n && nmB n && l.all noStar && chks q es z l
    | none => false)
  | .lc1 own t it c el, _, z, e => (match vLc1 e with
    | some (x, tg, i, ifs, s, p) => blkC q.N z.sc s (ownOf q.N own) && noSet i && (t.ix.all fun j => own.contains j) && chki q it true z tg i &&
        chkG q ⟨relS s z.sc, some s⟩ t tg && chkc q c ⟨relS s z.sc, some s⟩ ifs && chk q el false ⟨relS s z.sc, some s⟩ x
    | none => false)
  | .sc1 own t it c el, _, z, e => (match vSc1 e with
    | some (x, tg, i, ifs, s, p) => blkC q.N z.sc s (ownOf q.N own) && noSet i && (t.ix.all fun j => own.contains j) && chki q it true z tg i &&
        chkG q ⟨relS s z.sc, some s⟩ t tg && chkc q c ⟨relS s z.sc, some s⟩ ifs && chk q el false ⟨relS s z.sc, some s⟩ x
    | none => false)
  | .lc2 own t it c own1 t1 it1 c1 el, _, z, e => (match vLc2 e with
    | some (x, (tg, i, ifs), (tg1, i1, ifs1), s, p) => blkC q.N z.sc s (ownOf q.N own) && noSet i && noSet i1 && (t.ix.all fun j => own.contains j) && (t1.ix.all fun j => own1.contains j) && (own1.all fun j => (ownOf q.N own).any fun y => y.2 == j) && chki q it true z tg i &&
        chkG q ⟨relS s z.sc, some s⟩ t tg && chkc q c ⟨relS s z.sc, some s⟩ ifs && chki q it1 false ⟨relS s z.sc, some s⟩ tg1 i1 && chkG q ⟨relS s z.sc, some s⟩ t1 tg1 && chkc q c1 ⟨relS s z.sc, some s⟩ ifs1 && chk q el false ⟨relS s z.sc, some s⟩ x
    | none => false)
  | .fld o k, _, z, e => (match vSub e with
    | some (x, y) => chk q o false z x && (match vConst y with
      | some c => constB c k
      | none => false)
    | none => false)
  | .fldi o i, _, z, e => (match vSub e with
    | some (x, y) => chk q o false z x && (match vConst y with
      | some (.int j) => decide (j = (i : Int))
      | _ => false)
    | none => false)
  | .mkl es, _, z, e => (match vList e with
    | some l => decide (l.length ≤ 1000) && l.all noStar && chks q es z l
    | none => false)
  | .mko ks es, _, z, e => (match vDict e with
    | some (kes, l) => keyB ks kes && decide (kes.length = l.length) && decide (1 ≤ kes.length) && decide (kes.length ≤ 15) && decide ks.Nodup && l.all noStar && chks q es z l
    | none => false)
def chkT (q : Ck) : E → Zs → Expr → Bool
  | .cmp o a b, z, e => (match vCmp e with
    | some (x, [p], [y]) => decide (p = o.op) && noSet y && chk q a true z x && chk q b true z y
    | _ => false)
  | .chn o o2 a b c, z, e => (match vCmp e with
    | some (x, [p, p2], [y, w]) => decide (p = o.op) && decide (p2 = o2.op) && noSet w && chk q a true z x && chk q b true z y && chk q c true z w
    | _ => false)
  | .and a b, z, e => (match vBool e with
    | some (.And, x :: y :: rest, pos) => chkT q a z x && (match rest with
      | [] => chkT q b z y
      | _ => chkT q b z (.BoolOp .And (y :: rest) pos))
    | _ => false)
  | .or a b, z, e => (match vBool e with
    | some (.Or, x :: y :: rest, pos) => chkT q a z x && (match rest with
      | [] => chkT q b z y
      | _ => chkT q b z (.BoolOp .Or (y :: rest) pos))
    | _ => false)
  | .not a, z, e => (match vUn e with
    | some (.Not, x) => chkT q a z x
    | _ => false)
  | .var i, z, e => (match vName e with
    | some x => ixB q.N i x && visB z.sc x && nmB x
    | none => false)
  | .rd i, z, e => (match vName e with
    | some x => ixB q.N i x && visB z.sc x && nmB x
    | none => false)
  | .idx a i, z, e => (match vSub e with
    | some (x, y) => !isSlice y && chk q a true z x && chk q i false z y
    | none => false)
  | .bin o a b, z, e => (match vBin e with
    | some (x, p, y) => decide (p = o.op) && chk q a true z x && chk q b true z y
    | none => false)
  | .prim p es, z, e => plainT e && (match p.mt q z e with
    | some l => chkP q es p.fl z l
    | none => false)
  | .bl b, _, e => (match vConst e with
    | some (.bool c) => b == c
    | _ => false)
  | .isi a T, z, e => (match vCall e with
    | some (f, [x, t]) => decide (f = "isinstance") && glB z.sc "isinstance" && noStar x && chk q a true z x && (match vName t with
      | some n => decide (tyNm T = some n) && glB z.sc n
      | none => false)
    | _ => false)
  | .b1 f a, z, e => (match vCall e with
    | some (n, [x]) => decide (n = f.nm) && glB z.sc n && noStar x && chk q a true z x
    | _ => false)
  | .call f es, z, e => (match vCall e with
    | some (n, l) => decide (q.fns[f]? = some (n, l.length)) && glB z.sc n && nmB n && l.all noStar && chks q es z l
    | none => false)
  | _, _, _ => false
def chkc (q : Ck) : Oe → Zs → List Expr → Bool
  | .n, _, [] => true
  | .s c, z, [e] => chkT q c z e
  | _, _, _ => false
def chks (q : Ck) : Es → Zs → List Expr → Bool
  | .n, _, [] => true
  | .c a r, z, e :: es => chk q a false z e && chks q r z es
  | _, _, _ => false
def chko (q : Ck) : Oe → Zs → Option Expr → Bool
  | .n, _, none => true
  | .s c, z, some e => chk q c false z e
  | _, _, _ => false
def chkP (q : Ck) : Es → List Bool → Zs → List Expr → Bool
  | .n, [], _, [] => true
  | .c a r, true :: bs, z, e :: es => chk q a true z e && chkP q r bs z es
  | .c a r, false :: bs, z, e :: es => chk q a false z e && chkP q r bs z es
  | _, _, _, _ => false
/-- what is walked; cp: in a comprehension -/
def chki (q : Ck) : Wi → Bool → Zs → Expr → Expr → Bool
  | .sq a, c, z, _, e => chk q a c z e
  | .rg1 a, _, z, _, e => (match vCall e with
    | some (n, [x]) => decide (n = "range") && glB z.sc "range" && noStar x && chk q a false z x
    | _ => false)
  | .rg2 a b, _, z, _, e => (match vCall e with
    | some (n, [x, y]) => decide (n = "range") && glB z.sc "range" && noStar x && noStar y && chk q a false z x && chk q b false z y
    | _ => false)
  | .zip f a b, _, z, tg, e => isTup tg && (match vZip e with
    | some (f1, n, [x, y]) => (f1 == f) && decide (n = "zip") && glB z.sc "zip" && noStar x && noStar y && chk q a false z x && chk q b false z y
    | _ => false)
  | .prim p es, c, z, tg, e => (c || !p.cp) && (match p.mt q z tg e with
    | some l => chkP q es p.fl z l
    | none => false)
end

section
variable {g : Cf} {q : Ck} {z : Zs} {X : Cx} {k : Nat}
theorem Gd.blk (G : Gd q z X) (s : Shared) (H : Hp) (scope : Scope) (C : Addr) (cl : List (Str × Addr)) (fp : List Addr) : Gd q ⟨relS scope z.sc, some scope⟩ (X.blk s H scope (compEnvC scope cl C X.env) fp) := by
  refine ⟨G.N, G.nd, ?_, fun _ => rfl, G.calm, G.gd, G.un, G.bl⟩
  show relS scope X.env.scope = relS scope z.sc
  rw [G.sc]
theorem Fs.blk (G : Fs g q k X) (s : Shared) (H : Hp) (scope : Scope) (env : Env) (fp : List Addr) : Fs g q k (X.blk s H scope env fp) := ⟨G.gl, G.fn, G.rm⟩
theorem Gd.gb (G : Gd q z X) {x : Str} (h : glB z.sc x = true) : Gl X x := glB_ok (by rw [G.sc]; exact h)
theorem Gd.no (G : Gd q z X) (f : B1) : X.mg f.nm = none := G.bl _ (by cases f <;> decide)
/-- the judgements -/
def JE (g : Cf) (q : Ck) (k : Nat) (c : E) : Prop := ∀ (z : Zs) (X : Cx) (e : Expr), Gd q z X → Fs g q k X → chk q c false z e = true → PE X e (tE X.kx g c)
/-- as one who only reads it -/
def JR (g : Cf) (q : Ck) (k : Nat) (c : E) : Prop := ∀ (z : Zs) (X : Cx) (e : Expr), Gd q z X → Fs g q k X → chk q c true z e = true → PE X e (tR X.kx fun en => ev g c en)
def JT (g : Cf) (q : Ck) (k : Nat) (c : E) : Prop := ∀ (z : Zs) (X : Cx) (e : Expr), Gd q z X → Fs g q k X → chkT q c z e = true → PT X e (tT X.kx g c) ∧ ((vBool e).isSome = true → PW X e (tT X.kx g c))
def JA (g : Cf) (q : Ck) (k : Nat) (c : Es) : Prop := ∀ (z : Zs) (X : Cx) (e : List Expr), Gd q z X → Fs g q k X → e.all noStar = true → chks q c z e = true → PA X e (tEs X.kx g c)
def JO (g : Cf) (q : Ck) (k : Nat) (c : Oe) : Prop := ∀ (z : Zs) (X : Cx) (e : Option Expr), Gd q z X → Fs g q k X → chko q c z e = true → PO X e fun σ H Q => At X.kx σ H fun W en => Yl X.kx W (evo g c en) (fun _ v d => v = d) Q
def JC (g : Cf) (q : Ck) (k : Nat) (c : Oe) : Prop := ∀ (z : Zs) (X : Cx) (e : List Expr), Gd q z X → Fs g q k X → chkc q c z e = true → PTs X e fun σ H Q => At X.kx σ H fun W en => Yl X.kx W (evc g c en) (fun _ v d => v = d) Q
def JI (g : Cf) (q : Ck) (k : Nat) (c : Wi) : Prop := ∀ (z : Zs) (X : Cx) (tg e : Expr), Gd q z X → Fs g q k X → chki q c false z tg e = true → PI X tg e (tI X.kx g c)
/-- .. in a comprehension -/
def JK (g : Cf) (q : Ck) (k : Nat) (c : Wi) : Prop := ∀ (z : Zs) (X : Cx) (tg e : Expr), Gd q z X → Fs g q k X → chki q c true z tg e = true → PI X tg e (tIc X.kx g c)
theorem tR_of {K : Kx} {m : En → M D} {σ : L2.St} {H : Hp} {Q : VK} (h : tR K m σ H Q) : tM K m σ H Q := by
  obtain ⟨W0, W, en, e, ok, eo, d, S', hd, kk⟩ := h
  exact ⟨W0, W, en, e, ok, eo, d, S', hd, fun W' l ok' es v r => kk W' l ok' es v r.rd⟩
/-- what is not a name's own is read as it is -/
theorem JE.r {c : E} (h : JE g q k c) (n : ∀ z e, chk q c true z e = chk q c false z e) : JR g q k c := fun z X e G F hc => PE.weaken (h z X e G F (by rw [← n z e]; exact hc)) fun _ _ _ t => tR_of t

theorem yl_ret {α β : Type} {K : Kx} {W : Wd} {a : α} {R : Wd → β → α → Prop} {Q : β → Hp → Prop} (ok : W.Ok K) (h : Yl K W (M.ret a) R Q) {v : β} (r : R W v a) : Q v W.H := by
  obtain ⟨b, S', e, k⟩ := h
  obtain ⟨rfl, rfl⟩ := ret_inv e
  exact k W (Le.refl W) ok rfl v r
/-- two in a row -/
theorem yl_bnd {α β γ δ : Type} {K : Kx} {W : Wd} {m : M α} {f : α → M β} {R : Wd → γ → α → Prop} {R2 : Wd → δ → β → Prop} {Q : δ → Hp → Prop} (h : Yl K W (M.bnd m f) R2 Q) :
    Yl K W m (fun W1 _ a => True) (fun (_ : Unit) H => True) ∧ ∃ a S1, m W.S = some (a, S1) ∧ ∀ W1, Le W W1 → W1.Ok K → W1.S = S1 → Yl K W1 (f a) R2 Q := by
  obtain ⟨b, S', e, k⟩ := h
  obtain ⟨a, S1, e1, e2⟩ := bnd_inv e
  exact ⟨⟨a, S1, e1, fun _ _ _ _ _ _ => trivial⟩, a, S1, e1, fun W1 l ok es => ⟨b, S', by rw [es]; exact e2, fun W2 l2 ok2 es2 => k W2 (l.trans l2) ok2 es2⟩⟩
/-- an expression's value, then the rest -/
theorem at_E {K : Kx} {β γ : Type} {c : E} {f : D → M β} {R : Wd → γ → β → Prop} {Q : γ → Hp → Prop} {σ : L2.St} {W0 W : Wd} {en : En} (ok : W.Ok K) (eo : EnOk K W0 W en σ) (h : Yl K W (M.bnd (ev g c en) f) R Q) {Q1 : VK}
    (n : ∀ W1 v d, Le W W1 → W1.Ok K → EnOk K W0 W1 en σ → W1.Rp K v d → Yl K W1 (f d) R Q → Q1 v W1.H) : tE K g c σ W.H Q1 := by
  obtain ⟨_, d, S1, e1, rest⟩ := yl_bnd (R := fun _ (_ : Unit) _ => True) h
  exact ⟨W0, W, en, rfl, ok, eo, d, S1, e1, fun W1 l1 ok1 es1 v r => n W1 v d l1 ok1 (eo.le l1) r (rest W1 l1 ok1 es1)⟩
theorem at_R {K : Kx} {β γ : Type} {c : E} {f : D → M β} {R : Wd → γ → β → Prop} {Q : γ → Hp → Prop} {σ : L2.St} {W0 W : Wd} {en : En} (ok : W.Ok K) (eo : EnOk K W0 W en σ) (h : Yl K W (M.bnd (ev g c en) f) R Q) {Q1 : VK}
    (n : ∀ W1 v d, Le W W1 → W1.Ok K → EnOk K W0 W1 en σ → Rd K W1 v d → Yl K W1 (f d) R Q → Q1 v W1.H) : tR K (fun en => ev g c en) σ W.H Q1 := by
  obtain ⟨_, d, S1, e1, rest⟩ := yl_bnd (R := fun _ (_ : Unit) _ => True) h
  exact ⟨W0, W, en, rfl, ok, eo, d, S1, e1, fun W1 l1 ok1 es1 v r => n W1 v d l1 ok1 (eo.le l1) r (rest W1 l1 ok1 es1)⟩
theorem at_T {K : Kx} {β γ : Type} {c : E} {f : Bool → M β} {R : Wd → γ → β → Prop} {Q : γ → Hp → Prop} {σ : L2.St} {W0 W : Wd} {en : En} (ok : W.Ok K) (eo : EnOk K W0 W en σ) (h : Yl K W (M.bnd (evt g c en) f) R Q) {Q1 : Bool → Hp → Prop}
    (n : ∀ W1 b, Le W W1 → W1.Ok K → EnOk K W0 W1 en σ → Yl K W1 (f b) R Q → Q1 b W1.H) : tT K g c σ W.H Q1 := by
  obtain ⟨_, d, S1, e1, rest⟩ := yl_bnd (R := fun _ (_ : Unit) _ => True) h
  exact ⟨W0, W, en, rfl, ok, eo, d, S1, e1, fun W1 l1 ok1 es1 v r => by subst r; exact n W1 v l1 ok1 (eo.le l1) (rest W1 l1 ok1 es1)⟩
def Es.len : Es → Nat
  | .n => 0
  | .c _ r => r.len + 1
theorem evs_len : ∀ {c : Es} {en : En} {ds : List D} {S S' : Sto}, evs g c en S = some (ds, S') → ds.length = c.len
  | .n, _, _, _, _, h => by
    obtain ⟨rfl, _⟩ := ret_inv h
    rfl
  | .c a r, _, _, _, _, h => by
    obtain ⟨x, S1, _, h⟩ := bnd_inv h
    obtain ⟨xs, S2, h2, h⟩ := bnd_inv h
    obtain ⟨rfl, _⟩ := ret_inv h
    rw [List.length_cons, evs_len h2]
    rfl
theorem chks_len : ∀ {c : Es} {es : List Expr}, chks q c z es = true → es.length = c.len
  | .n, [], _ => rfl
  | .n, _ :: _, h => by cases h
  | .c _ _, [], h => by cases h
  | .c a r, e :: es, h => by
    have h := Bool.and_eq_true_iff.mp (show (chk q a false z e && chks q r z es) = true from h)
    rw [List.length_cons, chks_len h.2]
    rfl
theorem at_Es {K : Kx} {β γ : Type} {c : Es} {f : List D → M β} {R : Wd → γ → β → Prop} {Q : γ → Hp → Prop} {σ : L2.St} {W0 W : Wd} {en : En} (ok : W.Ok K) (eo : EnOk K W0 W en σ) (h : Yl K W (M.bnd (evs g c en) f) R Q) {Q1 : List V → Hp → Prop}
    (n : ∀ W1 v d, Le W W1 → W1.Ok K → EnOk K W0 W1 en σ → W1.Rps K v d → v.length = c.len → Yl K W1 (f d) R Q → Q1 v W1.H) : tEs K g c σ W.H Q1 := by
  obtain ⟨_, d, S1, e1, rest⟩ := yl_bnd (R := fun _ (_ : Unit) _ => True) h
  exact ⟨W0, W, en, rfl, ok, eo, d, S1, e1, fun W1 l1 ok1 es1 v r => n W1 v d l1 ok1 (eo.le l1) r (by rw [r.len, evs_len e1]) (rest W1 l1 ok1 es1)⟩
/-- an option's value, told -/
theorem yl_opt {α β : Type} {K : Kx} {W : Wd} {o : Option α} {R : Wd → β → α → Prop} {Q : β → Hp → Prop} (h : Yl K W (M.opt o) R Q) : ∃ a, o = some a ∧ Aft K W W.S fun W' => ∀ v, R W' v a → Q v W'.H := by
  obtain ⟨b, S', e, k⟩ := h
  obtain ⟨h1, h2⟩ := opt_inv e
  subst h2
  exact ⟨b, h1, k⟩
theorem yl_optb {α β γ : Type} {K : Kx} {W : Wd} {o : Option α} {f : α → M β} {R : Wd → γ → β → Prop} {Q : γ → Hp → Prop} (h : Yl K W (M.bnd (M.opt o) f) R Q) : ∃ a, o = some a ∧ Yl K W (f a) R Q := by
  obtain ⟨b, S', e, k⟩ := h
  obtain ⟨a, S1, e1, e2⟩ := bnd_inv e
  obtain ⟨h1, h2⟩ := opt_inv e1
  subst h2
  exact ⟨a, h1, b, S', e2, k⟩
theorem isI_inv {d : D} {i : Int} {S S' : Sto} (h : isI d S = some (i, S')) : d = .int i ∧ S' = S := by
  cases d <;> first | (obtain ⟨h1, h2⟩ := ret_inv h; exact ⟨by rw [h1], h2⟩) | exact (no_inv (S := S) h).elim
theorem isB_inv {d : D} {i : Bool} {S S' : Sto} (h : isB d S = some (i, S')) : d = .bl i ∧ S' = S := by
  cases d <;> first | (obtain ⟨h1, h2⟩ := ret_inv h; exact ⟨by rw [h1], h2⟩) | exact (no_inv (S := S) h).elim
theorem isO_inv {d : D} {i : Nat} {S S' : Sto} (h : isO d S = some (i, S')) : d = .obj i ∧ S' = S := by
  cases d <;> first | (obtain ⟨h1, h2⟩ := ret_inv h; exact ⟨by rw [h1], h2⟩) | exact (no_inv (S := S) h).elim
theorem isL_inv {d : D} {i : List D} {S S' : Sto} (h : isL d S = some (i, S')) : d = .lst i ∧ S' = S := by
  cases d <;> first | (obtain ⟨h1, h2⟩ := ret_inv h; exact ⟨by rw [h1], h2⟩) | exact (no_inv (S := S) h).elim
theorem yl_isI {β γ : Type} {K : Kx} {W : Wd} {d : D} {f : Int → M β} {R : Wd → γ → β → Prop} {Q : γ → Hp → Prop} (h : Yl K W (M.bnd (isI d) f) R Q) : ∃ i, d = .int i ∧ Yl K W (f i) R Q := by
  obtain ⟨b, S', e, k⟩ := h
  obtain ⟨a, S1, e1, e2⟩ := bnd_inv e
  obtain ⟨h1, h2⟩ := isI_inv e1
  subst h2
  exact ⟨a, h1, b, S', e2, k⟩
theorem yl_isB {β γ : Type} {K : Kx} {W : Wd} {d : D} {f : Bool → M β} {R : Wd → γ → β → Prop} {Q : γ → Hp → Prop} (h : Yl K W (M.bnd (isB d) f) R Q) : ∃ i, d = .bl i ∧ Yl K W (f i) R Q := by
  obtain ⟨b, S', e, k⟩ := h
  obtain ⟨a, S1, e1, e2⟩ := bnd_inv e
  obtain ⟨h1, h2⟩ := isB_inv e1
  subst h2
  exact ⟨a, h1, b, S', e2, k⟩
theorem yl_isO {β γ : Type} {K : Kx} {W : Wd} {d : D} {f : Nat → M β} {R : Wd → γ → β → Prop} {Q : γ → Hp → Prop} (h : Yl K W (M.bnd (isO d) f) R Q) : ∃ i, d = .obj i ∧ Yl K W (f i) R Q := by
  obtain ⟨b, S', e, k⟩ := h
  obtain ⟨a, S1, e1, e2⟩ := bnd_inv e
  obtain ⟨h1, h2⟩ := isO_inv e1
  subst h2
  exact ⟨a, h1, b, S', e2, k⟩
theorem yl_isL {β γ : Type} {K : Kx} {W : Wd} {d : D} {f : List D → M β} {R : Wd → γ → β → Prop} {Q : γ → Hp → Prop} (h : Yl K W (M.bnd (isL d) f) R Q) : ∃ i, d = .lst i ∧ Yl K W (f i) R Q := by
  obtain ⟨b, S', e, k⟩ := h
  obtain ⟨a, S1, e1, e2⟩ := bnd_inv e
  obtain ⟨h1, h2⟩ := isL_inv e1
  subst h2
  exact ⟨a, h1, b, S', e2, k⟩
theorem yl_ite {β γ : Type} {K : Kx} {W : Wd} {b : Bool} {x y : M β} {R : Wd → γ → β → Prop} {Q : γ → Hp → Prop} (h : Yl K W (if b = true then x else y) R Q) : (b = true → Yl K W x R Q) ∧ (b = false → Yl K W y R Q) := by
  cases b with
  | true => exact ⟨fun _ => h, (fun z => nomatch z)⟩
  | false => exact ⟨(fun z => nomatch z), fun _ => h⟩
/-! ### one by one -/
theorem e_bin {a b : E} {o : Bo} (ha : JR g q k a) (hb : JR g q k b) : JE g q k (.bin o a b) := by
  intro z X e G F h
  unfold chk at h
  split at h
  · rename_i x p y hv
    obtain ⟨pos, rfl⟩ := vBin_ok hv
    simp only [Bool.and_eq_true, decide_eq_true_eq] at h
    obtain ⟨⟨rfl, h1⟩, h2⟩ := h
    refine PE.weaken (pe_op (op_bin o) (ha z X x G F h1) (hb z X y G F h2)) ?_
    rintro σ H Q ⟨W0, W, en, rfl, ok, eo, hy⟩
    refine at_R ok eo hy fun W1 v d l1 ok1 eo1 r1 hy1 => ?_
    refine at_R ok1 eo1 hy1 fun W2 v2 d2 l2 ok2 eo2 r2 hy2 => ?_
    obtain ⟨d3, e3, k3⟩ := yl_opt hy2
    exact ⟨W2, d, d2, d3, rfl, ok2, l2.rd r1, r2, e3, k3⟩
  · cases h
theorem e_cmp {a b : E} {o : Co} (ha : JR g q k a) (hb : JR g q k b) : JE g q k (.cmp o a b) := by
  intro z X e G F h
  unfold chk at h
  split at h
  · rename_i x p y hv
    obtain ⟨pos, rfl⟩ := vCmp_ok hv
    simp only [Bool.and_eq_true, decide_eq_true_eq] at h
    obtain ⟨⟨⟨rfl, h0⟩, h1⟩, h2⟩ := h
    refine PE.weaken (pe_cmpR (op_cmp (by have := G.un; omega) o) (ha z X x G F h1) (hb z X y G F h2) (noSet_mark h0 _)) ?_
    rintro σ H Q ⟨W0, W, en, rfl, ok, eo, hy⟩
    refine at_R ok eo hy fun W1 v d l1 ok1 eo1 r1 hy1 => ?_
    refine at_R ok1 eo1 hy1 fun W2 v2 d2 l2 ok2 eo2 r2 hy2 => ?_
    obtain ⟨d3, e3, k3⟩ := yl_optb hy2
    exact ⟨W2, d, d2, d3, rfl, ok2, l2.rd r1, r2, e3, yl_ret ok2 k3 (.bl _)⟩
  · cases h
theorem jt1 {X : Cx} {e : Expr} {t : TT} (h : PT X e t) (n : (vBool e).isSome = false) : PT X e t ∧ ((vBool e).isSome = true → PW X e t) := ⟨h, fun z => by rw [n] at z; cases z⟩
theorem jt2 {X : Cx} {e : Expr} {t : TT} (h : PW X e t) : PT X e t ∧ ((vBool e).isSome = true → PW X e t) := ⟨h.pt, fun _ => h⟩
theorem t_cmp {a b : E} {o : Co} (ha : JR g q k a) (hb : JR g q k b) : JT g q k (.cmp o a b) := by
  intro z X e G F h
  unfold chkT at h
  split at h
  · rename_i x p y hv
    obtain ⟨pos, rfl⟩ := vCmp_ok hv
    simp only [Bool.and_eq_true, decide_eq_true_eq] at h
    obtain ⟨⟨⟨rfl, h0⟩, h1⟩, h2⟩ := h
    refine jt1 (PT.weaken (pt_cmpR (op_cmp (by have := G.un; omega) o) (ha z X x G F h1) (hb z X y G F h2) (noSet_mark h0 _)) ?_) rfl
    rintro σ H Q ⟨W0, W, en, rfl, ok, eo, hy⟩
    refine at_R ok eo hy fun W1 v d l1 ok1 eo1 r1 hy1 => ?_
    refine at_R ok1 eo1 hy1 fun W2 v2 d2 l2 ok2 eo2 r2 hy2 => ?_
    obtain ⟨d3, e3, k3⟩ := yl_opt hy2
    exact ⟨W2, d, d2, d3, rfl, ok2, l2.rd r1, r2, e3, d3, rfl, k3 W2 (Le.refl _) ok2 rfl d3 rfl⟩
  · cases h
theorem lastM {o o2 : CmpOp} {a b : Expr} (h : noSet b = true) : lastMarks [o, o2] [a, b] = false := noSet_mark h o2
theorem e_chn {a b c : E} {o o2 : Co} (ha : JR g q k a) (hb : JR g q k b) (hc : JR g q k c) : JE g q k (.chn o o2 a b c) := by
  intro z X e G F h
  unfold chk at h
  split at h
  · rename_i x p p2 y w hv
    obtain ⟨pos, rfl⟩ := vCmp_ok hv
    simp only [Bool.and_eq_true, decide_eq_true_eq] at h
    obtain ⟨⟨⟨⟨⟨rfl, rfl⟩, h0⟩, h1⟩, h2⟩, h3⟩ := h
    refine PE.weaken (pe_chain (op_cmp (by have := G.un; omega) o) (op_cmp (by have := G.un; omega) o2) (ha z X x G F h1) (hb z X y G F h2) (hc z X w G F h3) (lastM h0)) ?_
    rintro σ H Q ⟨W0, W, en, rfl, ok, eo, hy⟩
    refine at_R ok eo hy fun W1 v d l1 ok1 eo1 r1 hy1 => ?_
    refine at_R ok1 eo1 hy1 fun W2 v2 d2 l2 ok2 eo2 r2 hy2 => ?_
    obtain ⟨b3, e3, hy3⟩ := yl_optb hy2
    refine ⟨W2, d, d2, b3, rfl, ok2, l2.rd r1, r2, e3, b3, rfl, ?_⟩
    obtain ⟨y1, y2⟩ := yl_ite hy3
    cases b3 with
    | true =>
      refine iteT (at_R ok2 eo2 (y1 rfl) fun W3 v3 d3 l3 ok3 eo3 r3 hy4 => ?_)
      obtain ⟨b4, e4, hy5⟩ := yl_optb hy4
      exact ⟨W3, d2, d3, b4, rfl, ok3, l3.rd r2, r3, e4, yl_ret ok3 hy5 (.bl _)⟩
    | false => exact iteF (yl_ret ok2 (y2 rfl) (.bl _))
  · cases h
theorem t_chn {a b c : E} {o o2 : Co} (ha : JR g q k a) (hb : JR g q k b) (hc : JR g q k c) : JT g q k (.chn o o2 a b c) := by
  intro z X e G F h
  unfold chkT at h
  split at h
  · rename_i x p p2 y w hv
    obtain ⟨pos, rfl⟩ := vCmp_ok hv
    simp only [Bool.and_eq_true, decide_eq_true_eq] at h
    obtain ⟨⟨⟨⟨⟨rfl, rfl⟩, h0⟩, h1⟩, h2⟩, h3⟩ := h
    refine jt1 (PT.weaken (pt_chain (op_cmp (by have := G.un; omega) o) (op_cmp (by have := G.un; omega) o2) (ha z X x G F h1) (hb z X y G F h2) (hc z X w G F h3) (lastM h0)) ?_) rfl
    rintro σ H Q ⟨W0, W, en, rfl, ok, eo, hy⟩
    refine at_R ok eo hy fun W1 v d l1 ok1 eo1 r1 hy1 => ?_
    refine at_R ok1 eo1 hy1 fun W2 v2 d2 l2 ok2 eo2 r2 hy2 => ?_
    obtain ⟨b3, e3, hy3⟩ := yl_optb hy2
    refine ⟨W2, d, d2, b3, rfl, ok2, l2.rd r1, r2, e3, b3, rfl, ?_⟩
    obtain ⟨y1, y2⟩ := yl_ite hy3
    cases b3 with
    | true =>
      refine iteT (at_R ok2 eo2 (y1 rfl) fun W3 v3 d3 l3 ok3 eo3 r3 hy4 => ?_)
      obtain ⟨b4, e4, hy5⟩ := yl_opt hy4
      exact ⟨W3, d2, d3, b4, rfl, ok3, l3.rd r2, r3, e4, b4, rfl, hy5 W3 (Le.refl _) ok3 rfl b4 rfl⟩
    | false => exact iteF ⟨false, rfl, yl_ret ok2 (y2 rfl) rfl⟩
  · cases h
theorem e_and {a b : E} (ha : JE g q k a) (hb : JE g q k b) : JE g q k (.and a b) := by
  intro z X e G F h
  unfold chk at h
  split at h
  · rename_i x y rest pos hv
    cases vBool_ok hv
    rw [Bool.and_eq_true] at h
    have hb' : PE X (.BoolOp .And (y :: rest) pos) (tE X.kx g b) := by
      cases rest with
      | nil => exact pe_one (hb z X y G F h.2)
      | cons r rs => exact hb z X _ G F h.2
    refine PE.weaken (pe_and (ha z X x G F h.1) hb') ?_
    rintro σ H Q ⟨W0, W, en, rfl, ok, eo, hy⟩
    refine at_E ok eo hy fun W1 v d l1 ok1 eo1 r1 hy1 => ?_
    obtain ⟨b3, rfl, hy2⟩ := yl_isB hy1
    obtain ⟨y1, y2⟩ := yl_ite hy2
    cases r1
    refine ⟨b3, rfl, ?_⟩
    cases b3 with
    | true => exact iteT ⟨W0, W1, en, rfl, ok1, eo1, y1 rfl⟩
    | false => exact iteF (yl_ret ok1 (y2 rfl) (.bl _))
  · cases h
theorem e_or {a b : E} (ha : JE g q k a) (hb : JE g q k b) : JE g q k (.or a b) := by
  intro z X e G F h
  unfold chk at h
  split at h
  · rename_i x y rest pos hv
    cases vBool_ok hv
    rw [Bool.and_eq_true] at h
    have hb' : PE X (.BoolOp .Or (y :: rest) pos) (tE X.kx g b) := by
      cases rest with
      | nil => exact pe_one (hb z X y G F h.2)
      | cons r rs => exact hb z X _ G F h.2
    refine PE.weaken (pe_or (ha z X x G F h.1) hb') ?_
    rintro σ H Q ⟨W0, W, en, rfl, ok, eo, hy⟩
    refine at_E ok eo hy fun W1 v d l1 ok1 eo1 r1 hy1 => ?_
    obtain ⟨b3, rfl, hy2⟩ := yl_isB hy1
    obtain ⟨y1, y2⟩ := yl_ite hy2
    cases r1
    refine ⟨b3, rfl, ?_⟩
    cases b3 with
    | true => exact iteT (yl_ret ok1 (y1 rfl) (.bl _))
    | false => exact iteF ⟨W0, W1, en, rfl, ok1, eo1, y2 rfl⟩
  · cases h
theorem tw_and {a b : E} {x y : Expr} {rest : List Expr} {pos : Pos} {X : Cx} (ha : PT X x (tT X.kx g a)) (hb : PW X (.BoolOp .And (y :: rest) pos) (tT X.kx g b)) : PW X (.BoolOp .And (x :: y :: rest) pos) (tT X.kx g (.and a b)) := by
  refine PW.weaken (pw_and ha hb) ?_
  rintro σ H Q ⟨W0, W, en, rfl, ok, eo, hy⟩
  refine at_T ok eo hy fun W1 b3 l1 ok1 eo1 hy1 => ?_
  obtain ⟨y1, y2⟩ := yl_ite hy1
  cases b3 with
  | true => exact iteT ⟨W0, W1, en, rfl, ok1, eo1, y1 rfl⟩
  | false => exact iteF (yl_ret ok1 (y2 rfl) rfl)
theorem tw_or {a b : E} {x y : Expr} {rest : List Expr} {pos : Pos} {X : Cx} (ha : PT X x (tT X.kx g a)) (hb : PW X (.BoolOp .Or (y :: rest) pos) (tT X.kx g b)) : PW X (.BoolOp .Or (x :: y :: rest) pos) (tT X.kx g (.or a b)) := by
  refine PW.weaken (pw_or ha hb) ?_
  rintro σ H Q ⟨W0, W, en, rfl, ok, eo, hy⟩
  refine at_T ok eo hy fun W1 b3 l1 ok1 eo1 hy1 => ?_
  obtain ⟨y1, y2⟩ := yl_ite hy1
  cases b3 with
  | true => exact iteT (yl_ret ok1 (y1 rfl) rfl)
  | false => exact iteF ⟨W0, W1, en, rfl, ok1, eo1, y2 rfl⟩
theorem t_and {a b : E} (ha : JT g q k a) (hb : JT g q k b) : JT g q k (.and a b) := by
  intro z X e G F h
  unfold chkT at h
  split at h
  · rename_i x y rest pos hv
    cases vBool_ok hv
    rw [Bool.and_eq_true] at h
    refine jt2 (tw_and (ha z X x G F h.1).1 ?_)
    cases rest with
    | nil => exact pw_and1 (hb z X y G F h.2).1
    | cons r rs => exact (hb z X _ G F h.2).2 rfl
  · cases h
theorem t_or {a b : E} (ha : JT g q k a) (hb : JT g q k b) : JT g q k (.or a b) := by
  intro z X e G F h
  unfold chkT at h
  split at h
  · rename_i x y rest pos hv
    cases vBool_ok hv
    rw [Bool.and_eq_true] at h
    refine jt2 (tw_or (ha z X x G F h.1).1 ?_)
    cases rest with
    | nil => exact pw_or1 (hb z X y G F h.2).1
    | cons r rs => exact (hb z X _ G F h.2).2 rfl
  · cases h
theorem t_not {a : E} (ha : JT g q k a) : JT g q k (.not a) := by
  intro z X e G F h
  unfold chkT at h
  split at h
  · rename_i x hv
    obtain ⟨pos, rfl⟩ := vUn_ok hv
    refine jt1 (PT.weaken (pt_not (ha z X x G F h).1) ?_) rfl
    rintro σ H Q ⟨W0, W, en, rfl, ok, eo, hy⟩
    refine at_T ok eo hy fun W1 b3 l1 ok1 eo1 hy1 => ?_
    exact yl_ret ok1 hy1 rfl
  · cases h
theorem e_not {a : E} (ha : JE g q k a) : JE g q k (.not a) := by
  intro z X e G F h
  unfold chk at h
  split at h
  · rename_i x hv
    obtain ⟨pos, rfl⟩ := vUn_ok hv
    refine PE.weaken (pe_notT (ha z X x G F h)) ?_
    rintro σ H Q ⟨W0, W, en, rfl, ok, eo, hy⟩
    refine at_E ok eo hy fun W1 v d l1 ok1 eo1 r1 hy1 => ?_
    obtain ⟨b, e1, hy2⟩ := yl_optb hy1
    exact ⟨b, tru_D ok1 r1 e1, yl_ret ok1 hy2 (.bl _)⟩
  · cases h
theorem e_neg {a : E} (ha : JE g q k a) : JE g q k (.neg a) := by
  intro z X e G F h
  unfold chk at h
  split at h
  · rename_i x hv
    obtain ⟨pos, rfl⟩ := vUn_ok hv
    refine PE.weaken (pe_un un_neg (ha z X x G F h)) ?_
    rintro σ H Q ⟨W0, W, en, rfl, ok, eo, hy⟩
    refine at_E ok eo hy fun W1 v d l1 ok1 eo1 r1 hy1 => ?_
    obtain ⟨b, rfl, hy2⟩ := yl_isI hy1
    cases r1
    exact ⟨b, rfl, yl_ret ok1 hy2 (.int _)⟩
  · cases h
theorem e_ife {a b c : E} (hc : JT g q k c) (ha : JE g q k a) (hb : JE g q k b) : JE g q k (.ife c a b) := by
  intro z X e G F h
  unfold chk at h
  split at h
  · rename_i x y w hv
    obtain ⟨pos, rfl⟩ := vIf_ok hv
    simp only [Bool.and_eq_true] at h
    refine PE.weaken (pe_ifExp (hc z X x G F h.1.1).1 (ha z X y G F h.1.2) (hb z X w G F h.2)) ?_
    rintro σ H Q ⟨W0, W, en, rfl, ok, eo, hy⟩
    refine at_T ok eo hy fun W1 b3 l1 ok1 eo1 hy1 => ?_
    obtain ⟨y1, y2⟩ := yl_ite hy1
    cases b3 with
    | true => exact iteT ⟨W0, W1, en, rfl, ok1, eo1, y1 rfl⟩
    | false => exact iteF ⟨W0, W1, en, rfl, ok1, eo1, y2 rfl⟩
  · cases h
theorem e_idx {a b : E} (ha : JR g q k a) (hb : JE g q k b) : JE g q k (.idx a b) := by
  intro z X e G F h
  unfold chk at h
  split at h
  · rename_i x y hv
    obtain ⟨pos, rfl⟩ := vSub_ok hv
    simp only [Bool.and_eq_true, Bool.not_eq_true'] at h
    refine PE.weaken (pe_ix (ix_W (by have := G.un; omega)) (ha z X x G F h.1.2) (hb z X y G F h.2) (plainIx h.1.1)) ?_
    rintro σ H Q ⟨W0, W, en, rfl, ok, eo, hy⟩
    refine at_R ok eo hy fun W1 v d l1 ok1 eo1 r1 hy1 => ?_
    refine at_E ok1 eo1 hy1 fun W2 v2 d2 l2 ok2 eo2 r2 hy2 => ?_
    obtain ⟨d3, e3, k3⟩ := yl_opt hy2
    exact ⟨W2, d, d2, d3, rfl, ok2, l2.rd r1, r2.rd, e3, k3⟩
  · cases h
theorem at_O {K : Kx} {β γ : Type} {c : Oe} {f : Option Int → M β} {R : Wd → γ → β → Prop} {Q : γ → Hp → Prop} {σ : L2.St} {W0 W : Wd} {en : En} (ok : W.Ok K) (eo : EnOk K W0 W en σ) (h : Yl K W (M.bnd (evo g c en) f) R Q) {Q1 : Option Int → Hp → Prop}
    (n : ∀ W1 b, Le W W1 → W1.Ok K → EnOk K W0 W1 en σ → Yl K W1 (f b) R Q → Q1 b W1.H) : At K σ W.H fun W en => Yl K W (evo g c en) (fun _ v d => v = d) Q1 := by
  obtain ⟨_, d, S1, e1, rest⟩ := yl_bnd (R := fun _ (_ : Unit) _ => True) h
  exact ⟨W0, W, en, rfl, ok, eo, d, S1, e1, fun W1 l1 ok1 es1 v r => by subst r; exact n W1 v l1 ok1 (eo.le l1) (rest W1 l1 ok1 es1)⟩
theorem e_sli {a : E} {lo hi : Oe} (ha : JR g q k a) (hl : JO g q k lo) (hh : JO g q k hi) : JE g q k (.sli a lo hi) := by
  intro z X e G F h
  unfold chk at h
  split at h
  · rename_i x y hv
    obtain ⟨pos, rfl⟩ := vSub_ok hv
    split at h
    · rename_i l u hs
      obtain ⟨p2, rfl⟩ := vSlice_ok hs
      simp only [Bool.and_eq_true] at h
      refine PE.weaken (pe_slice sl_W (ha z X x G F h.1.1) (hl z X l G F h.1.2) (hh z X u G F h.2)) ?_
      rintro σ H Q ⟨W0, W, en, rfl, ok, eo, hy⟩
      refine at_R ok eo hy fun W1 v d l1 ok1 eo1 r1 hy1 => ?_
      refine at_O ok1 eo1 hy1 fun W2 b2 l2 ok2 eo2 hy2 => ?_
      refine at_O ok2 eo2 hy2 fun W3 b3 l3 ok3 eo3 hy3 => ?_
      obtain ⟨d3, e3, k3⟩ := yl_opt hy3
      exact ⟨W3, d, d3, rfl, ok3, l3.rd (l2.rd r1), e3, k3⟩
    · cases h
  · cases h
theorem o_n : JO g q k .n := by
  intro z X e G F h
  cases e with
  | none =>
    refine PO.weaken po_none ?_
    rintro σ H Q ⟨W0, W, en, rfl, ok, eo, hy⟩
    exact yl_ret ok hy rfl
  | some e => cases h
theorem o_s {a : E} (ha : JE g q k a) : JO g q k (.s a) := by
  intro z X e G F h
  cases e with
  | none => cases h
  | some e =>
    refine PO.weaken (po_some (ha z X e G F h)) ?_
    rintro σ H Q ⟨W0, W, en, rfl, ok, eo, hy⟩
    refine at_E ok eo hy fun W1 v d l1 ok1 eo1 r1 hy1 => ?_
    obtain ⟨b, rfl, hy2⟩ := yl_isI hy1
    cases r1
    exact ⟨b, rfl, yl_ret ok1 hy2 rfl⟩
theorem a_n : JA g q k .n := by
  intro z X e G F hs h
  cases e with
  | nil =>
    refine PA.weaken pa_nil ?_
    rintro σ H Q ⟨W0, W, en, rfl, ok, eo, hy⟩
    exact yl_ret ok hy .nil
  | cons e es => cases h
theorem a_c {a : E} {r : Es} (ha : JE g q k a) (hr : JA g q k r) : JA g q k (.c a r) := by
  intro z X e G F hs h
  cases e with
  | nil => cases h
  | cons e es =>
    rw [List.all_cons, Bool.and_eq_true] at hs
    have h := Bool.and_eq_true_iff.mp (show (chk q a false z e && chks q r z es) = true from h)
    refine PA.weaken (pa_cons (ha z X e G F h.1) (hr z X es G F hs.2 h.2) (star_each hs.1 es X.env)) ?_
    rintro σ H Q ⟨W0, W, en, rfl, ok, eo, hy⟩
    refine at_E ok eo hy fun W1 v d l1 ok1 eo1 r1 hy1 => ?_
    refine at_Es ok1 eo1 hy1 fun W2 vs ds l2 ok2 eo2 r2 _ hy2 => ?_
    exact yl_ret ok2 hy2 (.cons (l2.rp r1) r2)
theorem line1000 {n : Nat} (h : n ≤ 1000) : n ≤ sizeLine := Nat.le_trans h (by rw [sizeLine_eq]; decide)
theorem yl_new {K : Kx} {W : Wd} {d : D} {Q : VK} (h : Yl K W (M.ret d) (fun W' v d => W'.Rp K v d) Q) : Aft K W W.S fun W' => ∀ v, W'.Rp K v d → Q v W'.H := by
  obtain ⟨b, S', e, k⟩ := h
  obtain ⟨rfl, rfl⟩ := ret_inv e
  exact k
theorem e_tup {es : Es} (hs : JA g q k es) : JE g q k (.tup es) := by
  intro z X e G F h
  unfold chk at h
  split at h
  · rename_i l hv
    obtain ⟨k0, pos, rfl⟩ := vTuple_ok hv
    simp only [Bool.and_eq_true, decide_eq_true_eq] at h
    refine PE.weaken (pe_tupZ (hs z X l G F h.1.2 h.2)) ?_
    rintro σ H Q ⟨W0, W, en, rfl, ok, eo, hy⟩
    refine at_Es ok eo hy fun W2 vs ds l2 ok2 eo2 r2 hl hy2 => ?_
    have hz : vs.length ≤ sizeLine := line1000 (by rw [hl, ← chks_len h.2]; exact h.1.1)
    exact ⟨hz, fun p o ho hp => aft_new ok2 (yl_new hy2) hp (rp_newT ok2 ho hp hz r2)⟩
  · cases h
theorem e_lst {es : Es} (hs : JA g q k es) : JE g q k (.lst es) := by
  intro z X e G F h
  unfold chk at h
  split at h
  · rename_i l hv
    obtain ⟨pos, rfl⟩ := vList_ok hv
    simp only [Bool.and_eq_true, decide_eq_true_eq] at h
    refine PE.weaken (pe_lst (hs z X l G F h.1.2 h.2)) ?_
    rintro σ H Q ⟨W0, W, en, rfl, ok, eo, hy⟩
    refine at_Es ok eo hy fun W2 vs ds l2 ok2 eo2 r2 hl hy2 => ?_
    have hz : vs.length ≤ sizeLine := line1000 (by rw [hl, ← chks_len h.2]; exact h.1.1)
    exact ⟨hz, fun p hp => aft_new ok2 (yl_new hy2) hp (rp_newL ok2 hp hz r2)⟩
  · cases h
theorem getV_inv {en : En} {i : Nat} {d : D} (h : getV en i = some d) : en[i]? = some (.val d) := by
  unfold getV at h
  split at h
  · rename_i x hx
    cases h
    exact hx
  · cases h
theorem var_pe {i : Nat} {x : Str} {pos : Pos} (G : Gd q z X) (h : (ixB q.N i x && visB z.sc x && nmB x) = true) : PE X (.Name x pos) (tVar i) := by
  simp only [Bool.and_eq_true] at h
  exact pe_var (by rw [G.N]; exact of_decide_eq_true h.1.1) (by rw [G.sc]; exact visB_ok h.1.2) (nmB_1 h.2) (nmB_2 h.2)
theorem e_var {i : Nat} : JE g q k (.var i) := by
  intro z X e G F h
  unfold chk at h
  split at h
  · rename_i x hv
    obtain ⟨pos, rfl⟩ := vName_ok hv
    refine PE.weaken (var_pe G h) ?_
    rintro σ H Q ⟨W0, W, en, rfl, ok, eo, hy⟩
    obtain ⟨d, e1, kk⟩ := yl_opt hy
    obtain ⟨v, h1, h2⟩ := eo.val i d (getV_inv e1)
    exact ⟨v, h1, aft_here ok kk h2⟩
  · cases h
theorem t_var {i : Nat} : JT g q k (.var i) := by
  intro z X e G F h
  unfold chkT at h
  split at h
  · rename_i x hv
    obtain ⟨pos, rfl⟩ := vName_ok hv
    refine jt1 (PT.weaken (pt_truth (var_pe G h) (plainT_ok rfl)) ?_) rfl
    rintro σ H Q ⟨W0, W, en, rfl, ok, eo, hy⟩
    obtain ⟨d, e1, hy⟩ := yl_optb hy
    obtain ⟨v, h1, h2⟩ := eo.val i d (getV_inv e1)
    obtain ⟨b, e2, kk⟩ := yl_opt hy
    exact ⟨v, h1, b, tru_D ok h2 e2, kk W (Le.refl _) ok rfl b rfl⟩
  · cases h
theorem e_glo {j : Nat} : JE g q k (.glo j) := by
  intro z X e G F h
  unfold chk at h
  split at h
  · rename_i x hv
    obtain ⟨pos, rfl⟩ := vName_ok hv
    simp only [Bool.and_eq_true, decide_eq_true_eq] at h
    obtain ⟨d, v, u, h1, h2, h3, h4⟩ := F.gl j x h.1.1
    refine PE.weaken (pe_glob (G.gb h.1.2) h2 h3 (nmB_1 h.2)) ?_
    rintro σ H Q ⟨W0, W, en, rfl, ok, eo, hy⟩
    obtain ⟨d', e1, kk⟩ := yl_opt hy
    rw [h1] at e1
    cases e1
    exact aft_here ok kk (h4 _ _)
  · cases h
theorem e_int {n : Int} : JE g q k (.int n) := by
  intro z X e G F h
  unfold chk at h
  split at h
  · rename_i m hv
    obtain ⟨j, pos, rfl⟩ := vConst_ok hv
    cases of_decide_eq_true h
    refine PE.weaken pe_int ?_
    rintro σ H Q ⟨W0, W, en, rfl, ok, eo, hy⟩
    exact yl_ret ok hy (.int _)
  · cases h
theorem constB_ok {c : Const} {s : Str} (h : constB c s = true) : c = .str s := by
  unfold constB at h
  split at h
  · rw [of_decide_eq_true h]
  · cases h
theorem e_str {n : Str} : JE g q k (.str n) := by
  intro z X e G F h
  unfold chk at h
  split at h
  · rename_i m hv
    obtain ⟨j, pos, rfl⟩ := vConst_ok hv
    cases constB_ok h
    refine PE.weaken pe_str ?_
    rintro σ H Q ⟨W0, W, en, rfl, ok, eo, hy⟩
    exact yl_ret ok hy (.str _)
  · cases h
theorem e_bl {n : Bool} : JE g q k (.bl n) := by
  intro z X e G F h
  unfold chk at h
  split at h
  · rename_i m hv
    obtain ⟨j, pos, rfl⟩ := vConst_ok hv
    cases eq_of_beq h
    refine PE.weaken pe_bl ?_
    rintro σ H Q ⟨W0, W, en, rfl, ok, eo, hy⟩
    exact yl_ret ok hy (.bl _)
  · cases h
theorem t_bl {n : Bool} : JT g q k (.bl n) := by
  intro z X e G F h
  unfold chkT at h
  split at h
  · rename_i m hv
    obtain ⟨j, pos, rfl⟩ := vConst_ok hv
    cases eq_of_beq h
    refine jt1 (PT.weaken (pt_truth pe_bl (plainT_ok rfl)) ?_) rfl
    rintro σ H Q ⟨W0, W, en, rfl, ok, eo, hy⟩
    exact ⟨n, rfl, yl_ret ok hy rfl⟩
  · cases h
theorem e_non : JE g q k .non := by
  intro z X e G F h
  unfold chk at h
  split at h
  · rename_i hv
    obtain ⟨j, pos, rfl⟩ := vConst_ok hv
    refine PE.weaken pe_non ?_
    rintro σ H Q ⟨W0, W, en, rfl, ok, eo, hy⟩
    exact yl_ret ok hy .non
  · cases h
theorem b1_pe {f : B1} {x : Expr} {p pos : Pos} {t : TE} (G : Gd q z X) (hx : glB z.sc f.nm = true) (hn : noStar x = true) (h : PE X x t) : PE X (.Call (.Name f.nm p) [x] [] pos) (tCB (rWb X.kx (b1D f)) (tCons t tNil)) := by
  have hs := star_each hn [] X.env
  have ha := pa_cons h pa_nil hs
  have cr := call_b1 G.calm G.gd G.un f
  have hb := f.boot
  have gl := G.gb hx
  have no := G.no f
  cases f <;> first
    | exact pe_callB cr gl no hb ha (by decide) (by decide) hs rfl
    | exact pe_callTy cr gl no hb ha (by decide) (by decide) hs rfl
theorem e_b1 {f : B1} {a : E} (ha : JR g q k a) : JE g q k (.b1 f a) := by
  intro z X e G F h
  unfold chk at h
  split at h
  · rename_i n x hv
    obtain ⟨p, pos, rfl⟩ := vCall_ok hv
    simp only [Bool.and_eq_true, decide_eq_true_eq] at h
    obtain ⟨⟨⟨rfl, h1⟩, h2⟩, h3⟩ := h
    refine PE.weaken (b1_pe G h1 h2 (ha z X x G F h3)) ?_
    rintro σ H Q ⟨W0, W, en, rfl, ok, eo, hy⟩
    refine at_R ok eo hy fun W1 v d l1 ok1 eo1 r1 hy1 => ?_
    obtain ⟨d3, e3, k3⟩ := yl_opt hy1
    exact ⟨v, rfl, W1, d, d3, rfl, ok1, r1, e3, k3⟩
  · cases h
theorem t_b1 {f : B1} {a : E} (ha : JR g q k a) : JT g q k (.b1 f a) := by
  intro z X e G F h
  unfold chkT at h
  split at h
  · rename_i n x hv
    obtain ⟨p, pos, rfl⟩ := vCall_ok hv
    simp only [Bool.and_eq_true, decide_eq_true_eq] at h
    obtain ⟨⟨⟨rfl, h1⟩, h2⟩, h3⟩ := h
    refine jt1 (PT.weaken (pt_truth (b1_pe G h1 h2 (ha z X x G F h3)) (plainT_ok rfl)) ?_) rfl
    rintro σ H Q ⟨W0, W, en, rfl, ok, eo, hy⟩
    refine at_R ok eo hy fun W1 v d l1 ok1 eo1 r1 hy1 => ?_
    obtain ⟨d3, e3, hy2⟩ := yl_optb hy1
    obtain ⟨b, e4, k4⟩ := yl_opt hy2
    exact ⟨v, rfl, W1, d, d3, rfl, ok1, r1, e3, fun W2 l2 ok2 es2 v2 r2 => ⟨b, tru_D ok2 r2 e4, k4 W2 l2 ok2 es2 b rfl⟩⟩
  · cases h
theorem tyNm_ok {T : String} {n : Str} (h : tyNm T = some n) : bootBuiltins n = some (.type T) ∧ n ∈ bNames ∧ n ≠ "__name__" ∧ (n == ("__debug__" : Str)) = false := by
  unfold tyNm tyNames at h
  simp only [List.lookup] at h
  repeat' split at h
  all_goals first
    | (cases h; rename_i e; first | (have e := eq_of_beq e; subst e; decide +kernel) | (cases h))
    | cases h
theorem isi_pe {T : String} {n : Str} {x : Expr} {p p2 pos : Pos} {t : TE} (G : Gd q z X) (hx : glB z.sc "isinstance" = true) (hn : noStar x = true) (h : PE X x t) (ht : tyNm T = some n) (hg : glB z.sc n = true) :
    PE X (.Call (.Name "isinstance" p) [x, .Name n p2] [] pos) (tCB (rIsi X.kx) (tCons t (tCons (tC (.ty T)) tNil))) := by
  obtain ⟨b1, b2, b3, b4⟩ := tyNm_ok ht
  have ha := pa_cons h (pa_cons (pe_bltn (v := .ty T) (pos := p2) (G.gb hg) (G.bl _ b2) b1 rfl b3 b4) pa_nil) (star_each hn _ X.env)
  exact pe_callB call_isi (G.gb hx) (G.bl _ (by decide)) boot_isinstance ha (by decide) (by decide) (star_each hn _ X.env) rfl
theorem e_isi {a : E} {T : String} (ha : JR g q k a) : JE g q k (.isi a T) := by
  intro z X e G F h
  unfold chk at h
  split at h
  · rename_i f x t hv
    obtain ⟨p, pos, rfl⟩ := vCall_ok hv
    rw [Bool.and_eq_true] at h
    obtain ⟨h0, h⟩ := h
    simp only [Bool.and_eq_true, decide_eq_true_eq] at h0
    obtain ⟨⟨⟨rfl, h1⟩, h2⟩, h3⟩ := h0
    split at h
    · rename_i n hn
      obtain ⟨p2, rfl⟩ := vName_ok hn
      simp only [Bool.and_eq_true, decide_eq_true_eq] at h
      refine PE.weaken (isi_pe G h1 h2 (ha z X x G F h3) h.1 h.2) ?_
      rintro σ H Q ⟨W0, W, en, rfl, ok, eo, hy⟩
      refine at_R ok eo hy fun W1 v d l1 ok1 eo1 r1 hy1 => ?_
      obtain ⟨b, e3, k3⟩ := yl_optb hy1
      obtain ⟨t, e4, e5⟩ := obind (show (tyD d).bind (fun t => kitB t T) = some b from e3)
      exact ⟨v, .ty T, .type t, .type T, b, rfl, .ty T, ty_D ok1 r1 e4, kit_ty e5, yl_ret ok1 k3 (.bl _)⟩
    · cases h
  · cases h
theorem t_isi {a : E} {T : String} (ha : JR g q k a) : JT g q k (.isi a T) := by
  intro z X e G F h
  unfold chkT at h
  split at h
  · rename_i f x t hv
    obtain ⟨p, pos, rfl⟩ := vCall_ok hv
    rw [Bool.and_eq_true] at h
    obtain ⟨h0, h⟩ := h
    simp only [Bool.and_eq_true, decide_eq_true_eq] at h0
    obtain ⟨⟨⟨rfl, h1⟩, h2⟩, h3⟩ := h0
    split at h
    · rename_i n hn
      obtain ⟨p2, rfl⟩ := vName_ok hn
      simp only [Bool.and_eq_true, decide_eq_true_eq] at h
      refine jt1 (PT.weaken (pt_truth (isi_pe G h1 h2 (ha z X x G F h3) h.1 h.2) (plainT_ok rfl)) ?_) rfl
      rintro σ H Q ⟨W0, W, en, rfl, ok, eo, hy⟩
      refine at_R ok eo hy fun W1 v d l1 ok1 eo1 r1 hy1 => ?_
      obtain ⟨b, e3, k3⟩ := yl_opt hy1
      obtain ⟨t, e4, e5⟩ := obind (show (tyD d).bind (fun t => kitB t T) = some b from e3)
      exact ⟨v, .ty T, .type t, .type T, b, rfl, .ty T, ty_D ok1 r1 e4, kit_ty e5, b, rfl, k3 W1 (Le.refl _) ok1 rfl b rfl⟩
    · cases h
  · cases h
theorem e_m0 {m : M0} {a : E} (ha : JE g q k a) : JE g q k (.m0 m a) := by
  intro z X e G F h
  unfold chk at h
  split at h
  · rename_i x n p1 p2 hv
    cases vMeth0_ok hv
    rw [Bool.and_eq_true, Bool.and_eq_true, Bool.and_eq_true] at h
    obtain ⟨⟨⟨h1, h2⟩, h3⟩, h4⟩ := h
    cases m with
    | upper =>
      cases of_decide_eq_true h1
      refine PE.weaken (pe_upper (ha z X x G F h4) (plainO_ok h2 _ _) h3) ?_
      rintro σ H Q ⟨W0, W, en, rfl, ok, eo, hy⟩
      refine at_E ok eo hy fun W1 v d l1 ok1 eo1 r1 hy1 => ?_
      obtain ⟨d3, e3, k3⟩ := yl_opt hy1
      cases r1 with
      | str s =>
        obtain ⟨g1, g2⟩ := ifp_some (show (if s.length ≤ 5592405 then some (D.str (Txt.upper s)) else none) = some d3 from e3)
        subst g2
        exact ⟨⟨s, rfl⟩, s, rfl, rfl, g1, aft_here ok1 k3 (.str _)⟩
      | _ => cases e3
    | items =>
      cases of_decide_eq_true h1
      refine PE.weaken (pe_dcItems (ha z X x G F h4) (plainO_ok h2 _ _) h3) ?_
      rintro σ H Q ⟨W0, W, en, rfl, ok, eo, hy⟩
      refine at_E ok eo hy fun W1 v d l1 ok1 eo1 r1 hy1 => ?_
      obtain ⟨d3, e3, k3⟩ := yl_opt hy1
      cases r1 with
      | @dct a o L ks vs hx hl r q e =>
        cases e3
        exact ⟨a, L, rfl, .inr ⟨o, ok1.ex _ _ hx⟩, fun p hp => aft_new ok1 k3 hp (.itv (o := o) fr_at ((le_fr ok1 hp).ff _ _ hx) hl ((le_fr ok1 hp).rps r) ((le_fr ok1 hp).rps q) e)⟩
      | _ => cases e3
  · cases h
theorem call_pe {f : Nat} {es : Es} {n : Str} {l : List Expr} {p pos : Pos} (G : Gd q z X) (F : Fs g q k X) (hs : JA g q k es) (h : (decide (q.fns[f]? = some (n, l.length)) && glB z.sc n && nmB n && l.all noStar && chks q es z l) = true) :
    ∃ m, g.fn[f]? = some m ∧ PE X (.Call (.Name n p) l [] pos) (tCallC X.kx m (tEs X.kx g es)) := by
  simp only [Bool.and_eq_true, decide_eq_true_eq] at h
  obtain ⟨⟨⟨⟨h1, h2⟩, h3⟩, h4⟩, h5⟩ := h
  obtain ⟨m, fa, fd, ps, e1, e2, e3, e4, e5, e6⟩ := F.fn f n l.length h1
  refine ⟨m, e1, pe_C e4 F.rm G.gd (G.gb h2) e2 e3 e5 e6.symm (hs z X l G F h4 h5) ?_ ?_ h4 (nmB_1 h3)⟩
  · rintro σ H Q ⟨W0, W, en, rfl, ok, eo, ds, S', ed, kk⟩
    refine ⟨W0, W, en, rfl, ok, eo, ds, S', ed, fun W1 l1 ok1 es1 v r => ⟨?_, kk W1 l1 ok1 es1 v r⟩⟩
    rw [r.len, evs_len ed, chks_len h5]
  · rintro rfl σ H Q ⟨W0, W, en, rfl, ok, eo, ds, S', ed, kk⟩
    cases es with
    | n =>
      obtain ⟨rfl, rfl⟩ := ret_inv ed
      exact kk W (Le.refl _) ok rfl [] .nil
    | c a r => cases h5
theorem e_call {f : Nat} {es : Es} (hs : JA g q k es) : JE g q k (.call f es) := by
  intro z X e G F h
  unfold chk at h
  split at h
  · rename_i n l hv
    obtain ⟨p, pos, rfl⟩ := vCall_ok hv
    obtain ⟨m, e1, pe⟩ := call_pe (p := p) (pos := pos) G F hs h
    refine PE.weaken pe ?_
    rintro σ H Q ⟨W0, W, en, rfl, ok, eo, hy⟩
    refine at_Es ok eo hy fun W2 vs ds l2 ok2 eo2 r2 hl hy2 => ?_
    obtain ⟨m', e2, hy3⟩ := yl_optb hy2
    rw [e1] at e2
    cases e2
    exact ⟨W2, ds, rfl, ok2, r2, hy3⟩
  · cases h
theorem t_call {f : Nat} {es : Es} (hs : JA g q k es) : JT g q k (.call f es) := by
  intro z X e G F h
  unfold chkT at h
  split at h
  · rename_i n l hv
    obtain ⟨p, pos, rfl⟩ := vCall_ok hv
    obtain ⟨m, e1, pe⟩ := call_pe (p := p) (pos := pos) G F hs h
    refine jt1 (PT.weaken (pt_truth pe (plainT_ok rfl)) ?_) rfl
    rintro σ H Q ⟨W0, W, en, rfl, ok, eo, hy⟩
    refine at_Es ok eo hy fun W2 vs ds l2 ok2 eo2 r2 hl hy2 => ?_
    obtain ⟨m', e2, hy3⟩ := yl_optb hy2
    rw [e1] at e2
    cases e2
    obtain ⟨b, S', e4, k4⟩ := hy3
    obtain ⟨d, S1, e5, e6⟩ := bnd_inv e4
    obtain ⟨e7, rfl⟩ := opt_inv e6
    exact ⟨W2, ds, rfl, ok2, r2, d, S', e5, fun W3 l3 ok3 es3 v r => ⟨b, tru_D ok3 r e7, k4 W3 l3 ok3 es3 b rfl⟩⟩
  · cases h
theorem c_n : JC g q k .n := by
  intro z X e G F h
  cases e with
  | nil =>
    refine PTs.weaken pts_nil ?_
    rintro σ H Q ⟨W0, W, en, rfl, ok, eo, hy⟩
    exact yl_ret ok hy rfl
  | cons e es => cases h
theorem c_s {a : E} (ha : JT g q k a) : JC g q k (.s a) := by
  intro z X e G F h
  match e, h with
  | [e], h => exact pts_one (ha z X e G F h).1
theorem rdE_inv {en : En} {i : Nat} {d : D} (h : rdE en i = some d) : (∃ xs, en[i]? = some (.own (.ol xs)) ∧ d = .lst xs) ∨ ∃ ks vs, en[i]? = some (.own (.od ks vs)) ∧ d = .dct ks vs := by
  unfold rdE at h
  split at h
  · rename_i xs hx; cases h; exact .inl ⟨xs, hx, rfl⟩
  · rename_i ks vs hx; cases h; exact .inr ⟨ks, vs, hx, rfl⟩
  · cases h
theorem own_rd {K : Kx} {W0 W : Wd} {en : En} {σ : L2.St} {i : Nat} {d : D} (eo : EnOk K W0 W en σ) (h : rdE en i = some d) : ∃ v, σ[i]? = some (some v) ∧ Rd K W v d := by
  rcases rdE_inv h with ⟨xs, hx, rfl⟩ | ⟨ks, vs, hx, rfl⟩
  · obtain ⟨a, ho, h1, h2, h3, h4, h5, h6⟩ := eo.own i _ hx
    obtain ⟨us, rfl, r, hz⟩ := h6
    exact ⟨_, h1, .lst (.inr ⟨h2, h4⟩) hz r⟩
  · obtain ⟨a, ho, h1, h2, h3, h4, h5, h6⟩ := eo.own i _ hx
    obtain ⟨L, rfl, hz, r, q, e⟩ := h6
    exact ⟨_, h1, .dct (.inr ⟨h2, h4⟩) hz r q e⟩
theorem r_rd {i : Nat} : JR g q k (.rd i) := by
  intro z X e G F h
  unfold chk at h
  rw [Bool.and_eq_true] at h
  obtain ⟨_, h⟩ := h
  split at h
  · rename_i x hv
    obtain ⟨pos, rfl⟩ := vName_ok hv
    refine PE.weaken (var_pe G h) ?_
    rintro σ H Q ⟨W0, W, en, rfl, ok, eo, hy⟩
    obtain ⟨d, e1, kk⟩ := yl_opt hy
    obtain ⟨v, h1, h2⟩ := own_rd eo e1
    exact ⟨v, h1, kk W (Le.refl W) ok rfl v h2⟩
  · cases h
theorem e_rd {i : Nat} : JE g q k (.rd i) := by
  intro z X e G F h
  unfold chk at h
  cases h
theorem t_rd {i : Nat} : JT g q k (.rd i) := by
  intro z X e G F h
  unfold chkT at h
  split at h
  · rename_i x hv
    obtain ⟨pos, rfl⟩ := vName_ok hv
    refine jt1 (PT.weaken (pt_truth (var_pe G h) (plainT_ok rfl)) ?_) rfl
    rintro σ H Q ⟨W0, W, en, rfl, ok, eo, hy⟩
    obtain ⟨d, e1, hy⟩ := yl_optb hy
    obtain ⟨v, h1, h2⟩ := own_rd eo e1
    obtain ⟨b, e2, kk⟩ := yl_opt hy
    exact ⟨v, h1, b, tru_R ok h2 e2, kk W (Le.refl _) ok rfl b rfl⟩
  · cases h
theorem t_idx {a b : E} (ha : JR g q k a) (hb : JE g q k b) : JT g q k (.idx a b) := by
  intro z X e G F h
  unfold chkT at h
  split at h
  · rename_i x y hv
    obtain ⟨pos, rfl⟩ := vSub_ok hv
    simp only [Bool.and_eq_true, Bool.not_eq_true'] at h
    refine jt1 (PT.weaken (pt_truth (pe_ix (ix_W (by have := G.un; omega)) (ha z X x G F h.1.2) (hb z X y G F h.2) (plainIx h.1.1)) (plainT_ok rfl)) ?_) rfl
    rintro σ H Q ⟨W0, W, en, rfl, ok, eo, hy⟩
    refine at_R ok eo hy fun W1 v d l1 ok1 eo1 r1 hy1 => ?_
    refine at_E ok1 eo1 hy1 fun W2 v2 d2 l2 ok2 eo2 r2 hy2 => ?_
    obtain ⟨d3, e3, hy3⟩ := yl_optb hy2
    obtain ⟨b, e4, k4⟩ := yl_opt hy3
    exact ⟨W2, d, d2, d3, rfl, ok2, l2.rd r1, r2.rd, e3, fun W3 l3 ok3 es3 v3 r3 => ⟨b, tru_D ok3 r3 e4, k4 W3 l3 ok3 es3 b rfl⟩⟩
  · cases h
theorem t_bin {a b : E} {o : Bo} (ha : JR g q k a) (hb : JR g q k b) : JT g q k (.bin o a b) := by
  intro z X e G F h
  unfold chkT at h
  split at h
  · rename_i x p y hv
    obtain ⟨pos, rfl⟩ := vBin_ok hv
    simp only [Bool.and_eq_true, decide_eq_true_eq] at h
    obtain ⟨⟨rfl, h1⟩, h2⟩ := h
    refine jt1 (PT.weaken (pt_truth (pe_op (op_bin o) (ha z X x G F h1) (hb z X y G F h2)) (plainT_ok rfl)) ?_) rfl
    rintro σ H Q ⟨W0, W, en, rfl, ok, eo, hy⟩
    refine at_R ok eo hy fun W1 v d l1 ok1 eo1 r1 hy1 => ?_
    refine at_R ok1 eo1 hy1 fun W2 v2 d2 l2 ok2 eo2 r2 hy2 => ?_
    obtain ⟨d3, e3, hy3⟩ := yl_optb hy2
    obtain ⟨b, e4, k4⟩ := yl_opt hy3
    exact ⟨W2, d, d2, d3, rfl, ok2, l2.rd r1, r2, e3, fun W3 l3 ok3 es3 v3 r3 => ⟨b, tru_D ok3 r3 e4, k4 W3 l3 ok3 es3 b rfl⟩⟩
  · cases h
/-- the operands of what is added -/
def toL (g : Cf) : Es → List (En → M D)
  | .n => []
  | .c a r => (fun en => ev g a en) :: toL g r
theorem toL_seq : ∀ (c : Es) (en : En), seqM (toL g c) en = evs g c en
  | .n, _ => rfl
  | .c a r, en => by
    show M.bnd (ev g a en) (fun d => M.bnd (seqM (toL g r) en) fun ds => M.ret (d :: ds)) = _
    rw [toL_seq r en]
    rfl
def JQ (g : Cf) (q : Ck) (k : Nat) (c : Es) : Prop := ∀ (z : Zs) (X : Cx) (fl : List Bool) (l : List Expr), Gd q z X → Fs g q k X → chkP q c fl z l = true → OpsOk X fl l (toL g c)
theorem q_n : JQ g q k .n := by
  intro z X fl l G F h
  match fl, l, h with
  | [], [], _ => trivial
  | [], _ :: _, h => cases h
  | _ :: _, _, h => cases h
theorem q_c {a : E} {r : Es} (ha : JE g q k a) (hb : JR g q k a) (hr : JQ g q k r) : JQ g q k (.c a r) := by
  intro z X fl l G F h
  match fl, l, h with
  | true :: bs, e :: es, h =>
    have h := Bool.and_eq_true_iff.mp (show (chk q a true z e && chkP q r bs z es) = true from h)
    exact ⟨hb z X e G F h.1, hr z X bs es G F h.2⟩
  | false :: bs, e :: es, h =>
    have h := Bool.and_eq_true_iff.mp (show (chk q a false z e && chkP q r bs z es) = true from h)
    exact ⟨ha z X e G F h.1, hr z X bs es G F h.2⟩
  | [], _, h => cases h
  | true :: _, [], h => cases h
  | false :: _, [], h => cases h
theorem prim_ev {p : Prim} {es : Es} : (fun en => M.bnd (seqM (toL g es) en) (p.sem g)) = fun en => ev g (.prim p es) en := by
  funext en
  rw [toL_seq]
  rfl
theorem e_prim {p : Prim} {es : Es} (hs : JQ g q k es) : JE g q k (.prim p es) := by
  intro z X e G F h
  unfold chk at h
  split at h
  · rename_i l hl
    have := p.snd z X e l (toL g es) G F hl (hs z X _ l G F h)
    rw [prim_ev] at this
    exact this
  · cases h
theorem t_prim {p : Prim} {es : Es} (hs : JQ g q k es) : JT g q k (.prim p es) := by
  intro z X e G F h
  unfold chkT at h
  rw [Bool.and_eq_true] at h
  obtain ⟨h0, h⟩ := h
  split at h
  · rename_i l hl
    have := p.snd z X e l (toL g es) G F hl (hs z X _ l G F h)
    rw [prim_ev] at this
    refine jt1 (PT.weaken (pt_truth this (plainT_ok h0)) ?_) (by cases e <;> first | rfl | cases h0)
    rintro σ H Q ⟨W0, W, en, rfl, ok, eo, hy⟩
    obtain ⟨b, S', e4, k4⟩ := hy
    have e4 : M.bnd (evs g es en) (fun ds => M.bnd (p.sem g ds) fun d => M.opt (truD d)) W.S = some (b, S') := e4
    obtain ⟨ds, S1, e5, e6⟩ := bnd_inv e4
    obtain ⟨d, S2, e7, e8⟩ := bnd_inv e6
    obtain ⟨e9, rfl⟩ := opt_inv e8
    refine ⟨W0, W, en, rfl, ok, eo, d, S', ?_, fun W3 l3 ok3 es3 v r => ⟨b, tru_D ok3 r e9, k4 W3 l3 ok3 es3 b rfl⟩⟩
    show M.bnd (evs g es en) (p.sem g) W.S = _
    unfold M.bnd
    rw [e5]
    exact e7
  · cases h
end
end Cv

/-! Cv10: walks, comprehensions, objects; all expressions. -/
namespace Cv
open PySem PySem.Spec PyProof.Rows L2
section
variable {g : Cf} {q : Ck} {z : Zs} {X : Cx} {k : Nat}
theorem rg62 {i : Int} (h : rgOk i = true) : -(2 ^ 62) ≤ i ∧ i < 2 ^ 62 := by
  unfold rgOk at h
  simp only [Bool.and_eq_true, decide_eq_true_eq] at h
  omega
theorem rg0 : rgOk 0 = true := by decide
theorem i_sq {a : E} (ha : JE g q k a) : JI g q k (.sq a) := by
  intro z X tg e G F h
  refine PI.weaken (pi_sq (ha z X e G F h)) ?_
  rintro σ H R ⟨W0, W, en, rfl, ok, eo, ds, S', hd, kk⟩
  obtain ⟨x, S1, e1, e2⟩ := bnd_inv hd
  obtain ⟨e3, rfl⟩ := opt_inv e2
  refine ⟨W0, W, en, rfl, ok, eo, x, S', e1, fun W1 l1 ok1 es1 v r => ?_⟩
  cases r with
  | lst hx lx rx =>
    cases e3
    exact .inl ⟨_, _, rfl, ok1.sqL hx, kk W1 l1 ok1 es1 _ (wk_list hx lx rx)⟩
  | tup hx lx rx =>
    cases e3
    exact .inr (.inl ⟨_, _, rfl, ok1.sqT hx, kk W1 l1 ok1 es1 _ (wk_tup hx lx rx)⟩)
  | str s =>
    obtain ⟨h1, h2⟩ := ifp_some (show (if s.length ≤ sizeLine then some (s.cps.toList.map fun c => D.str ⟨#[c]⟩) else none) = some ds from e3)
    subst h2
    exact .inr (.inr ⟨s, rfl, kk W1 l1 ok1 es1 _ (wk_str s h1)⟩)
  | _ => cases e3
theorem if_no {α : Type} {c : Bool} {m : M α} {a : α} {S S' : Sto} (h : (if c = true then m else M.no) S = some (a, S')) : c = true ∧ m S = some (a, S') := by
  cases c with
  | true => exact ⟨rfl, h⟩
  | false => exact (no_inv (S := S) h).elim
theorem i_rg1 {a : E} (ha : JE g q k a) : JI g q k (.rg1 a) := by
  intro z X tg e G F h
  unfold chki at h
  split at h
  · rename_i n x hv
    obtain ⟨p, pos, rfl⟩ := vCall_ok hv
    simp only [Bool.and_eq_true, decide_eq_true_eq] at h
    obtain ⟨⟨⟨rfl, h1⟩, h2⟩, h3⟩ := h
    refine PI.weaken (pi_range1 (G.gb h1) (G.bl _ (by decide)) (pa_cons (ha z X x G F h3) pa_nil (star_each h2 [] X.env)) (star_each h2 [] X.env)) ?_
    rintro σ H R ⟨W0, W, en, rfl, ok, eo, ds, S', hd, kk⟩
    obtain ⟨d, S1, e1, e2⟩ := bnd_inv hd
    obtain ⟨i, S2, e3, e4⟩ := bnd_inv e2
    obtain ⟨rfl, rfl⟩ := isI_inv e3
    obtain ⟨e5, e6⟩ := if_no e4
    obtain ⟨rfl, rfl⟩ := ret_inv e6
    refine ⟨W0, W, en, rfl, ok, eo, _, _, e1, fun W1 l1 ok1 es1 v r => ?_⟩
    cases r
    have b := rg62 e5
    refine ⟨i, rfl, b.1, b.2, kk W1 l1 ok1 es1 _ ?_⟩
    have w := wk_rng (K := X.kx) (W := W1) 0 i rg0 e5
    rw [Int.sub_zero] at w
    exact w
  · cases h
theorem i_rg2 {a b : E} (ha : JE g q k a) (hb : JE g q k b) : JI g q k (.rg2 a b) := by
  intro z X tg e G F h
  unfold chki at h
  split at h
  · rename_i n x y hv
    obtain ⟨p, pos, rfl⟩ := vCall_ok hv
    simp only [Bool.and_eq_true, decide_eq_true_eq] at h
    obtain ⟨⟨⟨⟨⟨rfl, h1⟩, h2⟩, h3⟩, h4⟩, h5⟩ := h
    refine PI.weaken (pi_range2 (G.gb h1) (G.bl _ (by decide)) (pa_cons (ha z X x G F h4) (pa_cons (hb z X y G F h5) pa_nil (star_each h3 [] X.env)) (star_each h2 _ X.env)) (by rw [star_each h2, star_each h3]; rfl) (star_each h3 [] X.env)) ?_
    rintro σ H R ⟨W0, W, en, rfl, ok, eo, ds, S', hd, kk⟩
    obtain ⟨d, S1, e1, e2⟩ := bnd_inv hd
    obtain ⟨i, S2, e3, e4⟩ := bnd_inv e2
    obtain ⟨rfl, rfl⟩ := isI_inv e3
    obtain ⟨d2, S3, e5, e6⟩ := bnd_inv e4
    obtain ⟨j, S4, e7, e8⟩ := bnd_inv e6
    obtain ⟨rfl, rfl⟩ := isI_inv e7
    obtain ⟨e9, e10⟩ := if_no e8
    obtain ⟨rfl, rfl⟩ := ret_inv e10
    have e9 := Bool.and_eq_true_iff.mp e9
    refine ⟨W0, W, en, rfl, ok, eo, _, _, e1, fun W1 l1 ok1 es1 v r => ?_⟩
    refine ⟨W0, W1, en, rfl, ok1, eo.le l1, _, _, by rw [es1]; exact e5, fun W2 l2 ok2 es2 v2 r2 => ?_⟩
    cases r
    cases r2
    have b := rg62 e9.1
    have c := rg62 e9.2
    exact ⟨i, j, rfl, ⟨b.1, b.2, c.1, c.2⟩, kk W2 (l1.trans l2) ok2 es2 _ (wk_rng i j e9.1 e9.2)⟩
  · cases h
theorem isTup_ok {e : Expr} (h : isTup e = true) : ∃ l j p, e = .Tuple l j p := by
  cases e <;> first | exact ⟨_, _, _, rfl⟩ | cases h
theorem vZip_ok {e : Expr} {f : Bool} {n : Str} {l : List Expr} (h : vZip e = some (f, n, l)) : ∃ p kp tp kk pos, e = .Call (.Name n p) l (zKs f kp tp kk) pos := by
  unfold vZip at h
  split at h
  · cases h; exact ⟨_, default, default, 0, _, rfl⟩
  · split at h
    · rename_i e; subst e; cases h; exact ⟨_, _, _, _, _, rfl⟩
    · cases h
  · cases h
theorem seqZ_inv {K : Kx} {W : Wd} {v : V} {d : D} {xs : List D} (h : seqZ d = some xs) (r : W.Rp K v d) : ∃ b a vs, v = .ref a ∧ SqW K W b a vs ∧ vs.length ≤ sizeLine ∧ W.Rps K vs xs := by
  cases r with
  | lst hx lx rx => cases h; exact ⟨true, _, _, rfl, hx, lx, rx⟩
  | tup hx lx rx => cases h; exact ⟨false, _, _, rfl, hx, lx, rx⟩
  | _ => cases h
theorem SqW.here {K : Kx} {W : Wd} {b : Bool} {a : Addr} {vs : List V} (h : SqW K W b a vs) (ok : W.Ok K) : SqB K b W.H a vs := h.at_ ok (Lw.refl W)
theorem SqW.le {K : Kx} {W W' : Wd} {b : Bool} {a : Addr} {vs : List V} (h : SqW K W b a vs) (l : Le W W') : SqW K W' b a vs := by
  cases b with
  | true => exact lsAt_mono l.ff h
  | false => exact TuP.mono l.ff h
theorem i_zip {f : Bool} {a b : E} (ha : JE g q k a) (hb : JE g q k b) : JI g q k (.zip f a b) := by
  intro z X tg e G F h
  unfold chki at h
  rw [Bool.and_eq_true] at h
  obtain ⟨h0, h⟩ := h
  obtain ⟨l, j, tp, rfl⟩ := isTup_ok h0
  split at h
  · rename_i f1 n x y hv
    obtain ⟨p, kp, tp2, kk0, pos, rfl⟩ := vZip_ok hv
    simp only [Bool.and_eq_true, decide_eq_true_eq, beq_iff_eq] at h
    obtain ⟨⟨⟨⟨⟨⟨rfl, rfl⟩, h1⟩, h2⟩, h3⟩, h4⟩, h5⟩ := h
    refine PI.weaken (pi_zipF (G.gb h1) (G.bl _ (by decide)) (pa_cons (ha z X x G F h4) (pa_cons (hb z X y G F h5) pa_nil (star_each h3 [] X.env)) (star_each h2 _ X.env)) (star_each h2 _ X.env) (star_any pos X.env (by simp [h3]))) ?_
    rintro σ H R ⟨W0, W, en, rfl, ok, eo, ds, S', hd, kk⟩
    obtain ⟨d, S1, e1, e2⟩ := bnd_inv hd
    obtain ⟨d2, S3, e5, e6⟩ := bnd_inv e2
    obtain ⟨xs, S4, e7, e8⟩ := bnd_inv e6
    obtain ⟨e9, rfl⟩ := opt_inv e7
    obtain ⟨ys, S5, e10, e11⟩ := bnd_inv e8
    obtain ⟨e12, rfl⟩ := opt_inv e10
    obtain ⟨e13, e14⟩ := if_no e11
    obtain ⟨rfl, rfl⟩ := ret_inv e14
    refine ⟨W0, W, en, rfl, ok, eo, _, _, e1, fun W1 l1 ok1 es1 v r => ?_⟩
    refine ⟨W0, W1, en, rfl, ok1, eo.le l1, _, _, by rw [es1]; exact e5, fun W2 l2 ok2 es2 v2 r2 => ?_⟩
    obtain ⟨b1, a1, vs, rfl, hx, lx, rx⟩ := seqZ_inv e9 (l2.rp r)
    obtain ⟨b2, a2, ws, rfl, hy, ly, ry⟩ := seqZ_inv e12 r2
    exact ⟨a1, a2, b1, b2, vs, ws, rfl, hx.here ok2, hy.here ok2, kk W2 (l1.trans l2) ok2 es2 _ (wk_zip hx lx rx hy ry e13)⟩
  · cases h
/-- in a comprehension, too -/
theorem tI_of {K : Kx} {m : En → M (List D)} {σ : L2.St} {H : Hp} {R : It → Hp → Prop} (h : tIM Le K m σ H R) : tIM Lw K m σ H R := by
  obtain ⟨W0, W, en, e, ok, eo, ds, S', hd, kk⟩ := h
  exact ⟨W0, W, en, e, ok, eo, ds, S', hd, fun W' l ok' es J w => kk W' l ok' es J w.le⟩
theorem ji_k {c : Wi} (h : JI g q k c) (n : ∀ z tg e, chki q c true z tg e = chki q c false z tg e) : JK g q k c := fun z X tg e G F hc => PI.weaken (h z X tg e G F (by rw [← n z tg e]; exact hc)) fun _ _ _ t => tI_of t
theorem k_sq {a : E} (ha : JR g q k a) : JK g q k (.sq a) := by
  intro z X tg e G F h
  refine PI.weaken (pi_sq (ha z X e G F h)) ?_
  rintro σ H R ⟨W0, W, en, rfl, ok, eo, ds, S', hd, kk⟩
  obtain ⟨x, S1, e1, e2⟩ := bnd_inv hd
  obtain ⟨e3, rfl⟩ := opt_inv e2
  refine ⟨W0, W, en, rfl, ok, eo, x, S', e1, fun W1 l1 ok1 es1 v r => ?_⟩
  cases r with
  | lst hx lx rx =>
    cases e3
    exact .inl ⟨_, _, rfl, hx.sq ok1, kk W1 l1 ok1 es1 _ (wk_listO hx lx rx)⟩
  | tup hx lx rx =>
    cases e3
    exact .inr (.inl ⟨_, _, rfl, ok1.sqT hx, kk W1 l1 ok1 es1 _ (wk_tup hx lx rx).le⟩)
  | str s =>
    obtain ⟨h1, h2⟩ := ifp_some (show (if s.length ≤ sizeLine then some (s.cps.toList.map fun c => D.str ⟨#[c]⟩) else none) = some ds from e3)
    subst h2
    exact .inr (.inr ⟨s, rfl, kk W1 l1 ok1 es1 _ (wk_str s h1).le⟩)
  | _ => cases e3
theorem primW_ev {p : PrimW} {es : Es} : (fun en => M.bnd (seqM (toL g es) en) (p.sem g)) = fun en => evi g (.prim p es) en := by
  funext en
  rw [toL_seq]
  rfl
theorem i_prim {p : PrimW} {es : Es} (hs : JQ g q k es) : JI g q k (.prim p es) := by
  intro z X tg e G F h
  unfold chki at h
  rw [Bool.and_eq_true] at h
  obtain ⟨h0, h⟩ := h
  split at h
  · rename_i l hl
    have := p.snd z X tg e l (toL g es) G F hl (hs z X _ l G F h)
    rw [primW_ev] at this
    rw [show p.cp = false from by simpa using h0] at this
    exact this
  · cases h
theorem k_prim {p : PrimW} {es : Es} (hs : JQ g q k es) : JK g q k (.prim p es) := by
  intro z X tg e G F h
  unfold chki at h
  rw [Bool.and_eq_true] at h
  obtain ⟨_, h⟩ := h
  split at h
  · rename_i l hl
    have := p.snd z X tg e l (toL g es) G F hl (hs z X _ l G F h)
    rw [primW_ev] at this
    cases hc : p.cp with
    | true => rw [hc] at this; exact this
    | false => rw [hc] at this; exact PI.weaken this fun _ _ _ t => tI_of t
  · cases h
/-- a list that is grown at p becomes frozen -/
def Wd.fz (W : Wd) (p : Addr) (o : HO) : Wd := { W with F := upd W.F p o }
theorem ok_fz {K : Kx} {W : Wd} (ok : W.Ok K) {p : Addr} {o : HO} (h : W.H p = some o) (hf : W.F p = none) (hi : p ∉ W.io) : (W.fz p o).Ok K := by
  have ff : ∀ a u, W.F a = some u → upd W.F p o a = some u := fun a u e => by rw [upd_ne (ne_of_none e hf)]; exact e
  refine ⟨fun a u e => ?_, fun n fs e => ?_, ok.le, ok.nd⟩
  · have e' : upd W.F p o a = some u := e
    by_cases z : a = p
    · subst z; rw [upd_same] at e'; cases e'; exact h
    · rw [upd_ne z] at e'; exact ok.ex a u e'
  · obtain ⟨a, ho, h1, h2, h3, h4⟩ := ok.ob n fs e
    have ne : a ≠ p := fun z => hi (by rw [← z]; exact List.mem_of_getElem? h1)
    refine ⟨a, ho, h1, h2, ?_, h4.mono ff (fun _ _ h => h)⟩
    show upd W.F p o a = none
    rw [upd_ne ne]; exact h3
theorem ff_fz {W : Wd} {p : Addr} {o : HO} (hf : W.F p = none) : ∀ a u, W.F a = some u → (W.fz p o).F a = some u := fun a u e => by
  show upd W.F p o a = some u
  rw [upd_ne (ne_of_none e hf)]; exact e
/-- what lies behind W1 stays behind it when the new p is frozen, or written -/
theorem le_fz {W1 W : Wd} (l : Le W1 W) {p : Addr} {o : HO} (h : W1.H p = none) (hf : W.F p = none) : Le W1 (W.fz p o) := by
  refine ⟨fun a u e => ff_fz hf a u (l.ff a u e), l.hh, fun a u e n => ?_, l.al, l.io⟩
  show upd W.F p o a = none
  rw [upd_ne (ne_of_none e h)]; exact l.nf a u e n
def Wd.wr (W : Wd) (p : Addr) (o : HO) : Wd := { W with H := upd W.H p o }
theorem ok_wr {K : Kx} {W : Wd} (ok : W.Ok K) {p : Addr} {o : HO} (hf : W.F p = none) (hi : p ∉ W.io) : (W.wr p o).Ok K := by
  refine ⟨fun a u e => ?_, fun n fs e => ?_, ok.le, ok.nd⟩
  · show upd W.H p o a = some u
    have ne : a ≠ p := fun z => by rw [z] at e; rw [show W.F p = some u from e] at hf; cases hf
    rw [upd_ne ne]; exact ok.ex a u e
  · obtain ⟨a, ho, h1, h2, h3, h4⟩ := ok.ob n fs e
    have ne : a ≠ p := fun z => hi (by rw [← z]; exact List.mem_of_getElem? h1)
    refine ⟨a, ho, h1, ?_, h3, h4⟩
    show upd W.H p o a = _
    rw [upd_ne ne]; exact h2
theorem le_wr {W1 W : Wd} (l : Le W1 W) {p : Addr} {o : HO} (h : W1.H p = none) : Le W1 (W.wr p o) := by
  refine ⟨l.ff, fun a u e n => ?_, l.nf, fun a e => ?_, l.io⟩
  · show upd W.H p o a = some u
    rw [upd_ne (ne_of_none e h)]; exact l.hh a u e n
  · have e' : upd W.H p o a = none := e
    by_cases z : a = p
    · rw [z]; exact h
    · rw [upd_ne z] at e'; exact l.al a e'
theorem Le.nio {W W' : Wd} (l : Le W W') {p : Addr} {o : HO} (h : W.H p = some o) (hi : p ∉ W.io) : p ∉ W'.io := by
  obtain ⟨m, e, n⟩ := l.io
  rw [e]
  intro hm
  rcases List.mem_append.mp hm with z | z
  · exact hi z
  · rw [n p z] at h; cases h
/-- a comprehension's turn: what the list holds so far, what is still to come -/
structure Lc (K : Kx) (W1 : Wd) (D : Addr) (T : Cv.D → M Bool) (Fn : Cv.D → M Cv.D) (ds ys : List Cv.D) (S' : Sto) (i : Nat) (H : Hp) (W : Wd) (acc : List V) (da : List Cv.D) : Prop where
  eq : W.H = H
  le : Le W1 W
  ok : W.Ok K
  nF : W.F D = none
  nI : D ∉ W.io
  at_ : W.H D = some (.lst acc)
  rp : W.Rps K acc da
  il : i ≤ ds.length
  sm : da.length ≤ i
  go : ∃ y2, lcM T Fn (ds.drop i) W.S = some (y2, S') ∧ da ++ y2 = ys
theorem ixB_own {N : List Str} : ∀ {own : List Nat}, (ownOf N own).map (·.2) = own := fun {own} => ownOf_ix N own
/-- an expression that gives a list no one else holds -/
def tF (K : Kx) (g : Cf) (c : E) : TE := fun σ H Q => ∃ W0 W en xs S', Wd.H W = H ∧ W.Ok K ∧ EnOk K W0 W en σ ∧ ev g c en W.S = some (.lst xs, S') ∧
  ∀ W1, Le W W1 → W1.Ok K → W1.S = S' → ∀ p vs, W1.H p = some (.lst vs) → W1.F p = none → p ∉ W1.io → W.H p = none → W1.Rps K vs xs → vs.length ≤ sizeLine → Q (.ref p) W1.H
/-- frozen at once -/
theorem tF_of {K : Kx} {c : E} (hl : ∀ en S d S', ev g c en S = some (d, S') → ∃ xs, d = .lst xs) {σ : L2.St} {H : Hp} {Q : VK} (h : tE K g c σ H Q) : tF K g c σ H Q := by
  obtain ⟨W0, W, en, rfl, ok, eo, d, S', e, kk⟩ := h
  obtain ⟨xs, rfl⟩ := hl _ _ _ _ e
  refine ⟨W0, W, en, xs, S', rfl, ok, eo, e, fun W1 l1 ok1 es1 p vs hp hF hi hn r hz => ?_⟩
  exact kk (W1.fz p (.lst vs)) (le_fz l1 hn hF) (ok_fz ok1 hp hF hi) es1 (.ref p) (.lst (.inl upd_same) hz (Reps.mono (ff_fz hF) (fun _ _ h => h) r))
theorem lc_goF {K : Kx} {own : List Nat} {t : Tg} {it : Wi} {c : Oe} {el : E} (h3 : (t.ix.all fun j => own.contains j) = true) : ∀ σ H Q, tF K g (.lc1 own t it c el) σ H Q →
    tLc (tIc K g it) (tG K t) (fun σ H Q => At K σ H fun W en => Yl K W (evc g c en) (fun _ v d => v = d) Q) (tE K g el) own σ H Q := by
  rintro σ H Q ⟨W0, W, en, ys, S', rfl, ok, eo, hd, kk⟩
  obtain ⟨ds, S1, e1, e2⟩ := bnd_inv hd
  obtain ⟨ys0, S2, e3, e4⟩ := bnd_inv e2
  obtain ⟨hr0, hS0⟩ := ret_inv e4
  cases hr0
  subst hS0
  generalize hT : (fun d => M.bnd (M.opt (asg t d (wipeE en own))) fun en2 => evc g c en2) = T at e3
  generalize hFn : (fun d => M.bnd (M.opt (asg t d (wipeE en own))) fun en2 => ev g el en2) = Fn at e3
  refine ⟨W0, W, en, rfl, ok, eo, ds, S1, e1, fun W1 l1 ok1 es1 J wk D hD => ?_⟩
  refine ⟨fun i m H => m = ds.length - i ∧ ∃ W2 acc da, Lc K W1 D T Fn ds ys S' i H W2 acc da, ⟨ds.length, rfl, (W1.ad D (.lst [])), [], [], ?_⟩, ?_⟩
  · refine ⟨rfl, le_ad hD, ok_ad ok1 hD, ok1.fnone hD, fun hm => ?_, upd_same, .nil, Nat.zero_le _, Nat.zero_le _, ys, ?_, rfl⟩
    · obtain ⟨kv, a1, a2⟩ := ok1.alive hm
      rw [hD] at a1; cases a1
    · show lcM T Fn ds W1.S = _
      rw [es1]; exact e3
  · rintro i m H ⟨rfl, W2, acc, da, L⟩
    obtain ⟨heq, le2, ok2, nF, nI, hat, rp, il, smm, y2, eg, ey⟩ := L
    subst heq
    by_cases hlt : i < ds.length
    · refine .inr ⟨wk.go W2 i le2 ok2 hlt, fun H' => ∃ m', m' < ds.length - i ∧ m' = ds.length - (i + 1) ∧ ∃ W2 acc da, Lc K W1 D T Fn ds ys S' (i + 1) H' W2 acc da, fun H' ⟨m', a1, a2, a3⟩ => ⟨m', a1, a2, a3⟩, fun y H' hy => ?_⟩
      obtain ⟨W3, d, rfl, l3, ok3, es3, hd3, r3⟩ := wk.yl W2 i y H' le2 ok2 hlt hy
      have hdr : ds.drop i = d :: ds.drop (i + 1) := by
        rw [List.drop_eq_getElem_cons hlt]
        congr 1
        rw [List.getElem?_eq_getElem hlt] at hd3
        exact Option.some.inj hd3
      rw [hdr] at eg
      obtain ⟨b, S3, g1, g2⟩ := bnd_inv (show M.bnd (T d) (fun b => if b = true then M.bnd (Fn d) fun y => M.bnd (lcM T Fn (ds.drop (i + 1))) fun ys => M.ret (y :: ys) else lcM T Fn (ds.drop (i + 1))) W2.S = some (y2, S') from eg)
      have g1' := g1
      rw [← hT] at g1'
      obtain ⟨en2, S4, g3, g4⟩ := bnd_inv g1'
      obtain ⟨g5, rfl⟩ := opt_inv g3
      have eo3 := ((eo.le (l1.trans (le2.trans l3))).wipe own)
      refine ⟨W0, W3, wipeE en own, d, en2, rfl, ok3, eo3, r3, g5, fun σ2 eo4 hw => ⟨?_, ?_⟩⟩
      · rw [hw own (fun j hj => by simpa using List.all_eq_true.mp h3 j hj)]
        have ww : ∀ (vs ws : List Nat) (τ : L2.St), (∀ v ∈ ws, v ∈ vs) → wipe (wipe τ ws) vs = wipe τ vs := by
          intro vs ws τ
          induction ws with
          | nil => intro _; rfl
          | cons v ws ih =>
            intro hv
            show wipe ((wipe τ ws).set v none) vs = _
            rw [wipe_set (hv v List.mem_cons_self)]
            exact ih fun u hu => hv u (List.mem_cons_of_mem _ hu)
        exact ww own own σ fun _ h => h
      · refine ⟨W0, W3, en2, rfl, ok3, eo4, b, S3, by rw [es3]; exact g4, fun W4 l4 ok4 es4 b' hb => ?_⟩
        subst hb
        have hD4 : W4.H D = some (.lst acc) := l4.hh _ _ (l3.hh _ _ hat nI) (l3.nio hat nI)
        have nI4 : D ∉ W4.io := l4.nio (l3.hh _ _ hat nI) (l3.nio hat nI)
        have nF4 : W4.F D = none := l4.nf _ _ (l3.hh _ _ hat nI) (l3.nf _ _ hat nF)
        have le4 : Le W1 W4 := le2.trans (l3.trans l4)
        cases b' with
        | false =>
          refine iteF ⟨_, by omega, rfl, W4, acc, da, rfl, le4, ok4, nF4, nI4, hD4, l4.rps (l3.rps rp), hlt, by omega, y2, ?_, ey⟩
          rw [es4]; exact g2
        | true =>
          obtain ⟨dy, S5, g6, g7⟩ := bnd_inv (show M.bnd (Fn d) (fun y => M.bnd (lcM T Fn (ds.drop (i + 1))) fun ys => M.ret (y :: ys)) S3 = some (y2, S') from g2)
          obtain ⟨y3, S6, g8, g9⟩ := bnd_inv g7
          obtain ⟨rfl, rfl⟩ := ret_inv g9
          rw [← hFn] at g6
          obtain ⟨en3, S7, g10, g11⟩ := bnd_inv g6
          obtain ⟨g12, rfl⟩ := opt_inv g10
          rw [g5] at g12
          cases g12
          refine iteT ⟨W0, W4, en2, rfl, ok4, eo4.le l4, dy, S5, by rw [es4]; exact g11, fun W5 l5 ok5 es5 yv ry => ?_⟩
          have hD5 : W5.H D = some (.lst acc) := l5.hh _ _ hD4 nI4
          have nI5 : D ∉ W5.io := l5.nio hD4 nI4
          have nF5 : W5.F D = none := l5.nf _ _ hD4 nF4
          have hl : acc.length = da.length := rp.len
          have hln := wk.ln
          refine ⟨acc, hD5, by omega, _, by omega, rfl, W5.wr D (.lst (acc ++ [yv])), acc ++ [yv], da ++ [dy], rfl, le_wr (le4.trans l5) hD, ok_wr ok5 nF5 nI5, nF5, nI5, upd_same, (l5.rps (l4.rps (l3.rps rp))).app (.cons ry .nil), hlt, by rw [List.length_append]; show da.length + 1 ≤ i + 1; omega, y3, ?_, ?_⟩
          · show lcM T Fn (ds.drop (i + 1)) W5.S = _
            rw [es5]; exact g8
          · rw [List.append_assoc]; exact ey
    · have e0 : i = ds.length := by omega
      subst e0
      refine .inl ⟨wk.st W2 le2 ok2, ?_⟩
      rw [List.drop_length] at eg
      obtain ⟨rfl, hS⟩ := ret_inv (show M.ret [] W2.S = some (y2, S') from eg)
      rw [List.append_nil] at ey
      subst ey
      have hz : acc.length ≤ sizeLine := by
        have := rp.len
        have := wk.ln
        omega
      exact kk W2 (l1.trans le2) ok2 hS.symm D acc hat nF nI (l1.al _ hD) rp hz
theorem lc_lst {own : List Nat} {t : Tg} {it : Wi} {c : Oe} {el : E} : ∀ en S d S', ev g (.lc1 own t it c el) en S = some (d, S') → ∃ xs, d = .lst xs := by
  intro en S d S' h
  obtain ⟨ds, S1, _, e2⟩ := bnd_inv h
  obtain ⟨ys, S2, _, e4⟩ := bnd_inv e2
  exact ⟨ys, (ret_inv e4).1⟩
theorem lc_go {K : Kx} {own : List Nat} {t : Tg} {it : Wi} {c : Oe} {el : E} (h3 : (t.ix.all fun j => own.contains j) = true) : ∀ σ H Q, tE K g (.lc1 own t it c el) σ H Q →
    tLc (tIc K g it) (tG K t) (fun σ H Q => At K σ H fun W en => Yl K W (evc g c en) (fun _ v d => v = d) Q) (tE K g el) own σ H Q :=
  fun σ H Q h => lc_goF h3 σ H Q (tF_of lc_lst h)
/-- .. and is told as it is -/
def JF (g : Cf) (q : Ck) (k : Nat) (c : E) : Prop := ∀ (z : Zs) (X : Cx) (e : Expr), Gd q z X → Fs g q k X → chk q c false z e = true → PE X e (tF X.kx g c)
theorem JF.e {c : E} (h : JF g q k c) (hl : ∀ en S d S', ev g c en S = some (d, S') → ∃ xs, d = .lst xs) : JE g q k c := fun z X e G F hc => PE.weaken (h z X e G F hc) fun _ _ _ t => tF_of hl t
theorem f_lc1 {own : List Nat} {t : Tg} {it : Wi} {c : Oe} {el : E} (hi : JK g q k it) (hc : JC g q k c) (he : JE g q k el) : JF g q k (.lc1 own t it c el) := by
  intro z X e G F h
  unfold chk at h
  split at h
  · rename_i x tg i ifs s p hv
    cases vLc1_ok hv
    simp only [Bool.and_eq_true] at h
    obtain ⟨⟨⟨⟨⟨⟨h1, h2⟩, h3⟩, h4⟩, h5⟩, h6⟩, h7⟩ := h
    have blk := blkOk_by (N := X.N) (sc := X.env.scope) (scope := s) (own := ownOf q.N own) (by rw [G.N, G.sc]; exact h1)
    have rule := pe_lc (pos := p) (elt := x) (ifs := ifs) (te := tE X.kx g el) (tt := fun σ H Q => At X.kx σ H fun W en => Yl X.kx W (evc g c en) (fun _ v d => v = d) Q) (g := tG X.kx t) (wi := tIc X.kx g it) G.calm G.nd (hi z X tg i G F h4) blk (fun s0 H0 C cl fp => pg_tg (G.blk s0 H0 s C cl fp) t tg h5)
      (fun s0 H0 C cl fp => hc _ _ ifs (G.blk s0 H0 s C cl fp) (F.blk s0 H0 s _ fp) h6) (fun s0 H0 C cl fp => he _ _ x (G.blk s0 H0 s C cl fp) (F.blk s0 H0 s _ fp) h7) (noSet_ok h2 X.env)
    rw [ownOf_ix] at rule
    exact PE.weaken rule (lc_goF h3)
  · cases h
theorem e_lc1 {own : List Nat} {t : Tg} {it : Wi} {c : Oe} {el : E} (hi : JK g q k it) (hc : JC g q k c) (he : JE g q k el) : JE g q k (.lc1 own t it c el) := (f_lc1 hi hc he).e lc_lst
/-! ### two clauses -/
theorem asg_own : ∀ {t : Tg} {d : Cv.D} {en en2 : En} {i : Nat} {x : Ow}, asg t d en = some en2 → en2[i]? = some (.own x) → en[i]? = some (.own x)
  | .nm j, d, en, en2, i, x, h, h2 => by
    unfold asg at h
    split at h
    · cases h
      unfold setV at h2
      by_cases z : j = i
      · subst z
        rename_i hl
        rw [get_set_eq hl] at h2; cases h2
      · rwa [List.getElem?_set_ne z] at h2
    · cases h
  | .tp2 a b, .tup ds, en, en2, i, x, h, h2 => by
    obtain ⟨_, _, _, _, a1, a2⟩ := asg2 h
    exact asg_own a1 (asg_own a2 h2)
  | .tp3 a b c, .tup ds, en, en2, i, x, h, h2 => by
    obtain ⟨_, _, _, _, _, _, a1, a2, a3⟩ := asg3 h
    exact asg_own a1 (asg_own a2 (asg_own a3 h2))
  | .tp4 a b c e, .tup ds, en, en2, i, x, h, h2 => by
    obtain ⟨_, _, _, _, _, _, _, _, a1, a2, a3, a4⟩ := asg4 h
    exact asg_own a1 (asg_own a2 (asg_own a3 (asg_own a4 h2)))
theorem wipeE_own {en : En} {i : Nat} {x : Ow} : ∀ {own : List Nat}, (wipeE en own)[i]? = some (.own x) → en[i]? = some (.own x) ∧ i ∉ own
  | [], h => ⟨h, List.not_mem_nil⟩
  | v :: vs, h => by
    unfold wipeE at h
    by_cases z : v = i
    · subst z
      by_cases hl : v < (wipeE en vs).length
      · rw [get_set_eq hl] at h; cases h
      · rw [List.getElem?_eq_none (by rw [List.length_set]; omega)] at h; cases h
    · rw [List.getElem?_set_ne z] at h
      obtain ⟨a, b⟩ := wipeE_own h
      refine ⟨a, fun hm => ?_⟩
      rcases List.mem_cons.mp hm with e | e
      · exact z e.symm
      · exact b e
theorem wipe_get {σ : L2.St} {i : Nat} : ∀ {own : List Nat}, i ∉ own → (wipe σ own)[i]? = σ[i]?
  | [], _ => rfl
  | v :: vs, h => by
    unfold wipe
    rw [List.getElem?_set_ne (fun e => h (by rw [e]; exact List.mem_cons_self))]
    exact wipe_get fun hm => h (List.mem_cons_of_mem _ hm)
theorem wipe_wipe : ∀ (vs ws : List Nat) (τ : L2.St), (∀ v ∈ ws, v ∈ vs) → wipe (wipe τ ws) vs = wipe τ vs := by
  intro vs ws τ
  induction ws with
  | nil => intro _; rfl
  | cons v ws ih =>
    intro hv
    show wipe ((wipe τ ws).set v none) vs = _
    rw [wipe_set (hv v List.mem_cons_self)]
    exact ih fun u hu => hv u (List.mem_cons_of_mem _ hu)
theorem EnOk.wrD {K : Kx} {W0 W : Wd} {en : En} {σ : L2.St} {p : Addr} {o : HO} (e : EnOk K W0 W en σ) (h : ∀ (i : Nat) x, en[i]? = some (.own x) → σ[i]? ≠ some (some (.ref p))) : EnOk K W0 (W.wr p o) en σ := by
  refine ⟨e.len, e.val, fun i xs hi => ?_, e.sep⟩
  obtain ⟨a, vs, h1, h2, h3, h4, h5, h6⟩ := e.own i xs hi
  refine ⟨a, vs, h1, ?_, h3, h4, h5, h6⟩
  show upd W.H p o a = some _
  rw [upd_ne fun z => h i _ hi (by rw [h1, z])]
  exact h2
/-! ### a set, turn by turn -/
def zK (z : V × Cv.D) : Kv := (z.1, (nkD z.2).getD .none)
structure Sk (K : Kx) (W1 : Wd) (S : Addr) (m : Bool) (T : Cv.D → M Bool) (Fn : Cv.D → M Cv.D) (ds ys : List Cv.D) (S' : Sto) (i : Nat) (H : Hp) (W : Wd) (zl : List (V × Cv.D)) (da : List Cv.D) : Prop where
  eq : W.H = H
  le : Le W1 W
  ok : W.Ok K
  nF : W.F S = none
  nI : S ∉ W.io
  at_ : W.H S = some (SetV K.wo m S (zl.map zK))
  zo : ZOk K W.F W.io zl
  nd : ((zl.map (·.2)).map nkD).Nodup
  sub : ∀ z ∈ zl, z.2 ∈ da
  all : ∀ d ∈ da, nkD d ∈ (zl.map (·.2)).map nkD
  il : i ≤ ds.length
  go : ∃ y2, lcM T Fn (ds.drop i) W.S = some (y2, S') ∧ da ++ y2 = ys
theorem zK_key {m : Bool} {z : V × Cv.D} (h : keyM m z.2 = true) : nkD z.2 = some (zK z).2 := by
  obtain ⟨k, e, _⟩ := keyM_nk h
  unfold zK
  rw [e]
  rfl
theorem zK_map {m : Bool} : ∀ {zl : List (V × Cv.D)}, (∀ z ∈ zl, keyM m z.2 = true) → (zl.map (·.2)).map nkD = (zl.map zK).map fun p => some p.2
  | [], _ => rfl
  | z :: zl, h => by
    simp only [List.map_cons]
    rw [zK_map fun y hy => h y (List.mem_cons_of_mem _ hy), zK_key (h z List.mem_cons_self)]
theorem sk_go {K : Kx} {own : List Nat} {t : Tg} {it : Wi} {c : Oe} {el : E} (h3 : (t.ix.all fun j => own.contains j) = true) : ∀ σ H Q, tE K g (.sc1 own t it c el) σ H Q →
    tSk K.fr K.wo (tIc K g it) (tG K t) (fun σ H Q => At K σ H fun W en => Yl K W (evc g c en) (fun _ v d => v = d) Q) (tE K g el) own σ H Q := by
  rintro σ H Q ⟨W0, W, en, rfl, ok, eo, dd, S', hd, kk⟩
  obtain ⟨ds, S1, e1, e2⟩ := bnd_inv hd
  obtain ⟨ys, S2, e3, e4⟩ := bnd_inv e2
  obtain ⟨e5, hS0⟩ := opt_inv e4
  subst hS0
  obtain ⟨ys2, e6, rfl⟩ := Option.map_eq_some_iff.mp e5
  obtain ⟨m, m1, m2, rfl⟩ := setM_ok e6
  have key : ∀ d ∈ ys, keyM m d = true := fun d hd => List.all_eq_true.mp m1 d hd
  generalize hT : (fun d => M.bnd (M.opt (asg t d (wipeE en own))) fun en2 => evc g c en2) = T at e3
  generalize hFn : (fun d => M.bnd (M.opt (asg t d (wipeE en own))) fun en2 => ev g el en2) = Fn at e3
  refine ⟨W0, W, en, rfl, ok, eo, ds, S1, e1, fun W1 l1 ok1 es1 J wk S hS => ?_⟩
  refine ⟨m, fun i n H => n = ds.length - i ∧ ∃ W2 zl da, Sk K W1 S m T Fn ds ys S' i H W2 zl da, ⟨ds.length, rfl, (W1.ad S (SetV K.wo m S [])), [], [], ?_⟩, ?_⟩
  · refine ⟨rfl, le_ad hS, ok_ad ok1 hS, ok1.fnone hS, fun hm => ?_, upd_same, fun z hz => (nomatch hz), List.nodup_nil, fun z hz => (nomatch hz), fun z hz => (nomatch hz), Nat.zero_le _, ys, ?_, rfl⟩
    · obtain ⟨kv, a1, a2⟩ := ok1.alive hm
      rw [hS] at a1; cases a1
    · show lcM T Fn ds W1.S = _
      rw [es1]; exact e3
  · rintro i n H ⟨rfl, W2, zl, da, L⟩
    obtain ⟨heq, le2, ok2, nF, nI, hat, zo, nd, sub, all, il, y2, eg, ey⟩ := L
    subst heq
    by_cases hlt : i < ds.length
    · refine .inr ⟨wk.go W2 i le2 ok2 hlt, fun H' => ∃ m', m' < ds.length - i ∧ m' = ds.length - (i + 1) ∧ ∃ W2 zl da, Sk K W1 S m T Fn ds ys S' (i + 1) H' W2 zl da, fun H' ⟨m', a1, a2, a3⟩ => ⟨m', a1, a2, a3⟩, fun y H' hy => ?_⟩
      obtain ⟨W3, d, rfl, l3, ok3, es3, hd3, r3⟩ := wk.yl W2 i y H' le2 ok2 hlt hy
      have hdr : ds.drop i = d :: ds.drop (i + 1) := by
        rw [List.drop_eq_getElem_cons hlt]
        congr 1
        rw [List.getElem?_eq_getElem hlt] at hd3
        exact Option.some.inj hd3
      rw [hdr] at eg
      obtain ⟨b, S3, g1, g2⟩ := bnd_inv (show M.bnd (T d) (fun b => if b = true then M.bnd (Fn d) fun y => M.bnd (lcM T Fn (ds.drop (i + 1))) fun ys => M.ret (y :: ys) else lcM T Fn (ds.drop (i + 1))) W2.S = some (y2, S') from eg)
      have g1' := g1
      rw [← hT] at g1'
      obtain ⟨en2, S4, g3, g4⟩ := bnd_inv g1'
      obtain ⟨g5, rfl⟩ := opt_inv g3
      have eo3 := ((eo.le (l1.trans (le2.trans l3))).wipe own)
      refine ⟨W0, W3, wipeE en own, d, en2, rfl, ok3, eo3, r3, g5, fun σ2 eo4 hw => ⟨?_, ?_⟩⟩
      · rw [hw own (fun j hj => by simpa using List.all_eq_true.mp h3 j hj)]
        exact wipe_wipe own own σ fun _ h => h
      · refine ⟨W0, W3, en2, rfl, ok3, eo4, b, S3, by rw [es3]; exact g4, fun W4 l4 ok4 es4 b' hb => ?_⟩
        subst hb
        have at4 : W4.H S = some (SetV K.wo m S (zl.map zK)) := l4.hh _ _ (l3.hh _ _ hat nI) (l3.nio hat nI)
        have nI4 : S ∉ W4.io := l4.nio (l3.hh _ _ hat nI) (l3.nio hat nI)
        have nF4 : W4.F S = none := l4.nf _ _ (l3.hh _ _ hat nI) (l3.nf _ _ hat nF)
        have le4 : Le W1 W4 := le2.trans (l3.trans l4)
        cases b' with
        | false =>
          refine iteF ⟨_, by omega, rfl, W4, zl, da, rfl, le4, ok4, nF4, nI4, at4, fun z hz => l4.rp (l3.rp (zo z hz)), nd, sub, all, hlt, y2, ?_, ey⟩
          rw [es4]; exact g2
        | true =>
          obtain ⟨dy, S5, g6, g7⟩ := bnd_inv (show M.bnd (Fn d) (fun y => M.bnd (lcM T Fn (ds.drop (i + 1))) fun ys => M.ret (y :: ys)) S3 = some (y2, S') from g2)
          obtain ⟨y3, S6, g8, g9⟩ := bnd_inv g7
          obtain ⟨rfl, rfl⟩ := ret_inv g9
          rw [← hFn] at g6
          obtain ⟨en3, S7, g10, g11⟩ := bnd_inv g6
          obtain ⟨g12, rfl⟩ := opt_inv g10
          rw [g5] at g12
          cases g12
          refine iteT ⟨W0, W4, en2, rfl, ok4, eo4.le l4, dy, S5, by rw [es4]; exact g11, fun W5 l5 ok5 es5 yv ry => ?_⟩
          have at5 : W5.H S = some (SetV K.wo m S (zl.map zK)) := l5.hh _ _ at4 nI4
          have nI5 : S ∉ W5.io := l5.nio at4 nI4
          have nF5 : W5.F S = none := l5.nf _ _ at4 nF4
          have zo5 : ZOk K W5.F W5.io zl := fun z hz => l5.rp (l4.rp (l3.rp (zo z hz)))
          have inY : ∀ d ∈ da ++ [dy], d ∈ ys := fun u hu => by
            rw [← ey]
            rcases List.mem_append.mp hu with q | q
            · exact List.mem_append_left _ q
            · exact List.mem_append_right _ (by rw [List.mem_singleton.mp q]; exact List.mem_cons_self)
          have zkey : ∀ z ∈ zl, keyM m z.2 = true := fun z hz => key _ (inY _ (List.mem_append_left _ (sub z hz)))
          have ykey : keyM m dy = true := key _ (inY _ (List.mem_append_right _ (List.mem_singleton.mpr rfl)))
          have ynk : nkD dy = some (zK (yv, dy)).2 := zK_key (z := (yv, dy)) ykey
          have ezm := zK_map zkey
          refine ⟨zl.map zK, (zK (yv, dy)).2, at5, fun q hq => ?_, kv_rep (m := m) ok5.ex ry ykey ynk, fun hk => ?_, fun L' c1 c2 => ?_⟩
          · obtain ⟨z, z1, rfl⟩ := List.mem_map.mp hq
            exact kv_rep (m := m) ok5.ex (zo5 z z1) (zkey z z1) (zK_key (zkey z z1))
          · have nd2 : (((yv, dy) :: zl).map fun z => nkD z.2).Nodup := by
              rw [List.map_cons, List.nodup_cons]
              refine ⟨fun hm => hk ?_, by rw [List.map_map] at nd; exact nd⟩
              have hm : nkD dy ∈ (zl.map (·.2)).map nkD := by rw [List.map_map]; exact hm
              rw [ezm, ynk] at hm
              obtain ⟨p, p1, p2⟩ := List.mem_map.mp hm
              exact List.mem_map.mpr ⟨p, p1, Option.some.inj p2⟩
            have := nd_len _ ((dedD ys).map nkD) nd2 fun x hx => by
              obtain ⟨z, z1, rfl⟩ := List.mem_map.mp hx
              have zy : z.2 ∈ ys := by
                rcases List.mem_cons.mp z1 with q | q
                · rw [q]; exact inY _ (List.mem_append_right _ (List.mem_singleton.mpr rfl))
                · exact inY _ (List.mem_append_left _ (sub z q))
              obtain ⟨u, u1, u2⟩ := ded_all zy
              exact List.mem_map.mpr ⟨u, u1, u2⟩
            rw [List.length_map, List.length_map, List.length_cons] at this
            rw [List.length_map]
            omega
          · have fin : ∀ zl' : List (V × Cv.D), ZOk K W5.F W5.io zl' → ((zl'.map (·.2)).map nkD).Nodup → (∀ z ∈ zl', z.2 ∈ da ++ [dy]) → (∀ d ∈ da ++ [dy], nkD d ∈ (zl'.map (·.2)).map nkD) →
                ∃ m', m' < ds.length - i ∧ m' = ds.length - (i + 1) ∧ ∃ W2 zl da, Sk K W1 S m T Fn ds ys S' (i + 1) (upd W5.H S (SetV K.wo m S (zl'.map zK))) W2 zl da := fun zl' q1 q2 q3 q4 => by
              refine ⟨_, by omega, rfl, W5.wr S (SetV K.wo m S (zl'.map zK)), zl', da ++ [dy], rfl, le_wr (le4.trans l5) hS, ok_wr ok5 nF5 nI5, nF5, nI5, upd_same, q1, q2, q3, q4, hlt, y3, ?_, ?_⟩
              · show lcM T Fn (ds.drop (i + 1)) W5.S = _
                rw [es5]; exact g8
              · rw [List.append_assoc]; exact ey
            by_cases hk : (zK (yv, dy)).2 ∈ (zl.map zK).map (·.2)
            · rw [c1 hk]
              refine fin zl zo5 nd (fun z hz => List.mem_append_left _ (sub z hz)) fun u hu => ?_
              rcases List.mem_append.mp hu with q | q
              · exact all u q
              · rw [List.mem_singleton.mp q, ynk, ezm]
                obtain ⟨p, p1, p2⟩ := List.mem_map.mp hk
                exact List.mem_map.mpr ⟨p, p1, by rw [p2]⟩
            · obtain ⟨zl', p1, rfl⟩ := perm_up (f := zK) (l := (yv, dy) :: zl) (c2 hk)
              have pk := (p1.map (·.2)).map nkD
              refine fin zl' (fun z hz => ?_) (pk.nodup_iff.mpr ?_) (fun z hz => ?_) fun u hu => pk.mem_iff.mpr ?_
              · rcases List.mem_cons.mp (p1.mem_iff.mp hz) with q | q
                · rw [q]; exact ry
                · exact zo5 z q
              · rw [List.map_cons, List.map_cons, List.nodup_cons]
                refine ⟨fun hm => hk ?_, nd⟩
                rw [show ((yv, dy) : V × Cv.D).2 = dy from rfl, ynk, ezm] at hm
                obtain ⟨p, p1, p2⟩ := List.mem_map.mp hm
                exact List.mem_map.mpr ⟨p, p1, Option.some.inj p2⟩
              · rcases List.mem_cons.mp (p1.mem_iff.mp hz) with q | q
                · rw [q]; exact List.mem_append_right _ (List.mem_singleton.mpr rfl)
                · exact List.mem_append_left _ (sub z q)
              · rw [List.map_cons, List.map_cons]
                rcases List.mem_append.mp hu with q | q
                · exact List.mem_cons_of_mem _ (all u q)
                · rw [List.mem_singleton.mp q]; exact List.mem_cons_self
    · have e0 : i = ds.length := by omega
      subst e0
      refine .inl ⟨wk.st W2 le2 ok2, ?_⟩
      rw [List.drop_length] at eg
      obtain ⟨rfl, hSS⟩ := ret_inv (show M.ret [] W2.S = some (y2, S') from eg)
      rw [List.append_nil] at ey
      subst ey
      have zkey : ∀ z ∈ zl, keyM m z.2 = true := fun z hz => key _ (sub z hz)
      refine kk (W2.fz S (SetV K.wo m S (zl.map zK))) (le_fz (l1.trans le2) (l1.al _ hS) nF) (ok_fz ok2 hat nF nI) hSS.symm (.ref S) (.set (es := zl.map (·.2)) upd_same ?_ (zK_map zkey) (perm_ded nd (fun e he => ?_) all fun d hd => ?_))
      · rw [show (zl.map zK).map (·.1) = zl.map (·.1) by rw [List.map_map]; rfl]
        exact ok_reps fun z hz => Rep.mono (ff_fz nF) (fun _ _ h => h) (zo z hz)
      · obtain ⟨z, z1, rfl⟩ := List.mem_map.mp he
        exact sub z z1
      · obtain ⟨k, hk, _⟩ := keyM_nk (key d hd)
        exact ⟨k, hk⟩
theorem e_sc1 {own : List Nat} {t : Tg} {it : Wi} {c : Oe} {el : E} (hi : JK g q k it) (hc : JC g q k c) (he : JE g q k el) : JE g q k (.sc1 own t it c el) := by
  intro z X e G F h
  unfold chk at h
  split at h
  · rename_i x tg i ifs s p hv
    cases vSc1_ok hv
    simp only [Bool.and_eq_true] at h
    obtain ⟨⟨⟨⟨⟨⟨h1, h2⟩, h3⟩, h4⟩, h5⟩, h6⟩, h7⟩ := h
    have blk := blkOk_by (N := X.N) (sc := X.env.scope) (scope := s) (own := ownOf q.N own) (by rw [G.N, G.sc]; exact h1)
    have rule := pe_sk (p0 := p) (el := x) (cs := ifs) (te := tE X.kx g el) (tt := fun σ H Q => At X.kx σ H fun W en => Yl X.kx W (evc g c en) (fun _ v d => v = d) Q) (g := tG X.kx t) (wi := tIc X.kx g it) G.calm G.nd (by have := G.un; omega) (hi z X tg i G F h4) blk
      (fun s0 H0 C cl fp => pg_tg (G.blk s0 H0 s C cl fp) t tg h5) (fun s0 H0 C cl fp => hc _ _ ifs (G.blk s0 H0 s C cl fp) (F.blk s0 H0 s _ fp) h6) (fun s0 H0 C cl fp => he _ _ x (G.blk s0 H0 s C cl fp) (F.blk s0 H0 s _ fp) h7) (noSet_ok h2 X.env)
    rw [ownOf_ix] at rule
    exact PE.weaken rule (sk_go h3)
  · cases h
/-- an outer turn .. -/
structure Lc2 (K : Kx) (W1 : Wd) (D : Addr) (T : Cv.D → M Bool) (Fn : Cv.D → M (List Cv.D)) (ds ys : List Cv.D) (S' : Sto) (i : Nat) (H : Hp) (W : Wd) (acc : List V) (da : List Cv.D) : Prop where
  eq : W.H = H
  le : Le W1 W
  ok : W.Ok K
  nF : W.F D = none
  nI : D ∉ W.io
  at_ : W.H D = some (.lst acc)
  rp : W.Rps K acc da
  il : i ≤ ds.length
  go : ∃ y2, catM T Fn (ds.drop i) W.S = some (y2, S') ∧ da ++ y2 = ys
/-- .. and an inner one -/
structure Li (K : Kx) (W0 W1 W5 : Wd) (en2 : En) (σ2 : L2.St) (D : Addr) (T : Cv.D → M Bool) (Fn : Cv.D → M Cv.D) (ds ys : List Cv.D) (S' : Sto) (i : Nat) (H : Hp) (W : Wd) (acc : List V) (da : List Cv.D) : Prop where
  eq : W.H = H
  le : Le W1 W
  lw : Lw W5 W
  eo : EnOk K W0 W en2 σ2
  ok : W.Ok K
  nF : W.F D = none
  nI : D ∉ W.io
  at_ : W.H D = some (.lst acc)
  rp : W.Rps K acc da
  il : i ≤ ds.length
  go : ∃ y2, lcM T Fn (ds.drop i) W.S = some (y2, S') ∧ da ++ y2 = ys
theorem lc2_goF {K : Kx} {own own1 : List Nat} {t t1 : Tg} {it it1 : Wi} {c c1 : Oe} {el : E} (h3 : (t.ix.all fun j => own.contains j) = true) (h4 : (t1.ix.all fun j => own1.contains j) = true) : ∀ σ H Q, tF K g (.lc2 own t it c own1 t1 it1 c1 el) σ H Q →
    tLc2 (tIc K g it) (tG K t) (fun σ H Q => At K σ H fun W en => Yl K W (evc g c en) (fun _ v d => v = d) Q) (tI K g it1) (tG K t1) (fun σ H Q => At K σ H fun W en => Yl K W (evc g c1 en) (fun _ v d => v = d) Q) (tE K g el) own own1 σ H Q := by
  rintro σ H Q ⟨W0, W, en, ys, S', rfl, ok, eo, hd, kk⟩
  obtain ⟨ds, S1, e1, e2⟩ := bnd_inv hd
  obtain ⟨ys0, S2, e3, e4⟩ := bnd_inv e2
  have e4 : (if ys0.length ≤ sizeLine then M.ret (.lst ys0) else M.no : M Cv.D) S2 = some (.lst ys, S') := e4
  split at e4
  case isFalse => cases e4
  rename_i hzz
  obtain ⟨hr0, hS0⟩ := ret_inv e4
  cases hr0
  subst hS0
  generalize hT : (fun d => M.bnd (M.opt (asg t d (wipeE en own))) fun en2 => evc g c en2) = T at e3
  generalize hFn : (fun d => M.bnd (M.opt (asg t d (wipeE en own))) fun en2 => M.bnd (evi g it1 en2) fun ds1 =>
    lcM (fun d1 => M.bnd (M.opt (asg t1 d1 (wipeE en2 own1))) fun en3 => evc g c1 en3) (fun d1 => M.bnd (M.opt (asg t1 d1 (wipeE en2 own1))) fun en3 => ev g el en3) ds1) = Fn at e3
  refine ⟨W0, W, en, rfl, ok, eo, ds, S1, e1, fun W1 l1 ok1 es1 J wk D hD => ?_⟩
  refine ⟨fun i m H => m = ds.length - i ∧ ∃ W2 acc da, Lc2 K W1 D T Fn ds ys S' i H W2 acc da, ⟨ds.length, rfl, (W1.ad D (.lst [])), [], [], ?_⟩, ?_⟩
  · refine ⟨rfl, le_ad hD, ok_ad ok1 hD, ok1.fnone hD, fun hm => ?_, upd_same, .nil, Nat.zero_le _, ys, ?_, rfl⟩
    · obtain ⟨kv, a1, a2⟩ := ok1.alive hm
      rw [hD] at a1; cases a1
    · show catM T Fn ds W1.S = _
      rw [es1]; exact e3
  · rintro i m H ⟨rfl, W2, acc, da, L⟩
    obtain ⟨heq, le2, ok2, nF, nI, hat, rp, il, y2, eg, ey⟩ := L
    subst heq
    by_cases hlt : i < ds.length
    · refine .inr ⟨wk.go W2 i le2 ok2 hlt, fun H' => ∃ m', m' < ds.length - i ∧ m' = ds.length - (i + 1) ∧ ∃ W2 acc da, Lc2 K W1 D T Fn ds ys S' (i + 1) H' W2 acc da, fun H' ⟨m', a1, a2, a3⟩ => ⟨m', a1, a2, a3⟩, fun y H' hy => ?_⟩
      obtain ⟨W3, d, rfl, l3, ok3, es3, hd3, r3⟩ := wk.yl W2 i y H' le2 ok2 hlt hy
      have hdr : ds.drop i = d :: ds.drop (i + 1) := by
        rw [List.drop_eq_getElem_cons hlt]
        congr 1
        rw [List.getElem?_eq_getElem hlt] at hd3
        exact Option.some.inj hd3
      rw [hdr] at eg
      obtain ⟨b, S3, g1, g2⟩ := bnd_inv (show M.bnd (T d) (fun b => if b = true then M.bnd (Fn d) fun ys => M.bnd (catM T Fn (ds.drop (i + 1))) fun zs => M.ret (ys ++ zs) else catM T Fn (ds.drop (i + 1))) W2.S = some (y2, S') from eg)
      have g1' := g1
      rw [← hT] at g1'
      obtain ⟨en2, S4, g3, g4⟩ := bnd_inv g1'
      obtain ⟨g5, rfl⟩ := opt_inv g3
      have eo1 := eo.le l1
      have eo3 := ((eo.le (l1.trans (le2.trans l3))).wipe own)
      refine ⟨W0, W3, wipeE en own, d, en2, rfl, ok3, eo3, r3, g5, fun σ2 eo4 hw => ?_⟩
      have hw2 : wipe σ2 own = wipe σ own := by
        rw [hw own (fun j hj => by simpa using List.all_eq_true.mp h3 j hj)]
        exact wipe_wipe own own σ fun _ h => h
      have hnd : ∀ (i : Nat) x, en2[i]? = some (.own x) → σ2[i]? ≠ some (some (.ref D)) := by
        intro i x hx hs
        obtain ⟨a1, a2⟩ := wipeE_own (asg_own g5 hx)
        have e5 : σ[i]? = σ2[i]? := by rw [← wipe_get (σ := σ) a2, ← wipe_get (σ := σ2) a2, hw2]
        obtain ⟨a, vs, b1, b2, _⟩ := eo1.own i x a1
        rw [e5, hs] at b1
        cases b1
        rw [hD] at b2; cases b2
      refine ⟨hw2, ?_⟩
      · refine ⟨W0, W3, en2, rfl, ok3, eo4, b, S3, by rw [es3]; exact g4, fun W4 l4 ok4 es4 b' hb => ?_⟩
        subst hb
        have hD4 : W4.H D = some (.lst acc) := l4.hh _ _ (l3.hh _ _ hat nI) (l3.nio hat nI)
        have nI4 : D ∉ W4.io := l4.nio (l3.hh _ _ hat nI) (l3.nio hat nI)
        have nF4 : W4.F D = none := l4.nf _ _ (l3.hh _ _ hat nI) (l3.nf _ _ hat nF)
        have le4 : Le W1 W4 := le2.trans (l3.trans l4)
        cases b' with
        | false =>
          refine iteF ⟨_, by omega, rfl, W4, acc, da, rfl, le4, ok4, nF4, nI4, hD4, l4.rps (l3.rps rp), hlt, y2, ?_, ey⟩
          rw [es4]; exact g2
        | true =>
          obtain ⟨yl, S5, g6, g7⟩ := bnd_inv (show M.bnd (Fn d) (fun ys => M.bnd (catM T Fn (ds.drop (i + 1))) fun zs => M.ret (ys ++ zs)) S3 = some (y2, S') from g2)
          obtain ⟨y3, S6, g8, g9⟩ := bnd_inv g7
          obtain ⟨rfl, rfl⟩ := ret_inv g9
          rw [← hFn] at g6
          obtain ⟨en3, S7, g10, g11⟩ := bnd_inv g6
          obtain ⟨g12, rfl⟩ := opt_inv g10
          rw [g5] at g12
          cases g12
          obtain ⟨ds1, S8, g13, g14⟩ := bnd_inv g11
          generalize hT1 : (fun d1 => M.bnd (M.opt (asg t1 d1 (wipeE en2 own1))) fun en3 => evc g c1 en3) = T1 at g14
          generalize hF1 : (fun d1 => M.bnd (M.opt (asg t1 d1 (wipeE en2 own1))) fun en3 => ev g el en3) = F1 at g14
          refine iteT ⟨W0, W4, en2, rfl, ok4, eo4.le l4, ds1, S8, by rw [es4]; exact g13, fun W5 l5 ok5 es5 J1 wk1 => ?_⟩
          have hD5 : W5.H D = some (.lst acc) := l5.hh _ _ hD4 nI4
          have nI5 : D ∉ W5.io := l5.nio hD4 nI4
          have nF5 : W5.F D = none := l5.nf _ _ hD4 nF4
          refine ⟨fun j k H => k = ds1.length - j ∧ ∃ W6 acc1 da1, Li K W0 W1 W5 en2 σ2 D T1 F1 ds1 (da ++ yl) S5 j H W6 acc1 da1, ⟨ds1.length, rfl, W5, acc, da, ?_⟩, ?_⟩
          · exact ⟨rfl, le4.trans l5, Lw.refl _, (eo4.le l4).le l5, ok5, nF5, nI5, hD5, l5.rps (l4.rps (l3.rps rp)), Nat.zero_le _, yl, by rw [es5]; exact g14, rfl⟩
          · rintro j k H ⟨rfl, W6, acc1, da1, L6⟩
            obtain ⟨heq6, le6, lw6, eo6, ok6, nF6, nI6, hD6, rp6, il6, y6, eg6, ey6⟩ := L6
            subst heq6
            by_cases hlt1 : j < ds1.length
            · refine .inr ⟨wk1.go W6 j lw6 ok6 hlt1, fun H' => ∃ k', k' < ds1.length - j ∧ k' = ds1.length - (j + 1) ∧ ∃ W6 acc1 da1, Li K W0 W1 W5 en2 σ2 D T1 F1 ds1 (da ++ yl) S5 (j + 1) H' W6 acc1 da1, fun H' ⟨m', a1, a2, a3⟩ => ⟨m', a1, a2, a3⟩, fun y H' hy => ?_⟩
              obtain ⟨W7, d1, rfl, l7, ok7, es7, hd7, r7⟩ := wk1.yl W6 j y H' lw6 ok6 hlt1 hy
              have hdr1 : ds1.drop j = d1 :: ds1.drop (j + 1) := by
                rw [List.drop_eq_getElem_cons hlt1]
                congr 1
                rw [List.getElem?_eq_getElem hlt1] at hd7
                exact Option.some.inj hd7
              rw [hdr1] at eg6
              obtain ⟨b1, S9, k1, k2⟩ := bnd_inv (show M.bnd (T1 d1) (fun b => if b = true then M.bnd (F1 d1) fun y => M.bnd (lcM T1 F1 (ds1.drop (j + 1))) fun ys => M.ret (y :: ys) else lcM T1 F1 (ds1.drop (j + 1))) W6.S = some (y6, S5) from eg6)
              have k1' := k1
              rw [← hT1] at k1'
              obtain ⟨en4, S10, k3, k4⟩ := bnd_inv k1'
              obtain ⟨k5, rfl⟩ := opt_inv k3
              have eo7 := ((eo6.le l7).wipe own1)
              refine ⟨W0, W7, wipeE en2 own1, d1, en4, rfl, ok7, eo7, r7, k5, fun σ3 eo8 hw3 => ⟨?_, ?_⟩⟩
              · rw [hw3 own1 (fun j hj => by simpa using List.all_eq_true.mp h4 j hj)]
                exact wipe_wipe own1 own1 σ2 fun _ h => h
              · refine ⟨W0, W7, en4, rfl, ok7, eo8, b1, S9, by rw [es7]; exact k4, fun W8 l8 ok8 es8 b8 hb8 => ?_⟩
                subst hb8
                have hD8 : W8.H D = some (.lst acc1) := l8.hh _ _ (l7.hh _ _ hD6 nI6) (l7.nio hD6 nI6)
                have nI8 : D ∉ W8.io := l8.nio (l7.hh _ _ hD6 nI6) (l7.nio hD6 nI6)
                have nF8 : W8.F D = none := l8.nf _ _ (l7.hh _ _ hD6 nI6) (l7.nf _ _ hD6 nF6)
                have le8 : Le W1 W8 := le6.trans (l7.trans l8)
                have lw8 : Lw W5 W8 := lw6.trans (l7.trans l8).lw
                have eo9 : EnOk K W0 W8 en2 σ2 := (eo6.le l7).le l8
                cases b8 with
                | false =>
                  refine iteF ⟨_, by omega, rfl, W8, acc1, da1, rfl, le8, lw8, eo9, ok8, nF8, nI8, hD8, l8.rps (l7.rps rp6), hlt1, y6, ?_, ey6⟩
                  rw [es8]; exact k2
                | true =>
                  obtain ⟨dy, S11, k6, k7⟩ := bnd_inv (show M.bnd (F1 d1) (fun y => M.bnd (lcM T1 F1 (ds1.drop (j + 1))) fun ys => M.ret (y :: ys)) S9 = some (y6, S5) from k2)
                  obtain ⟨y7, S12, k8, k9⟩ := bnd_inv k7
                  obtain ⟨rfl, rfl⟩ := ret_inv k9
                  rw [← hF1] at k6
                  obtain ⟨en5, S13, k10, k11⟩ := bnd_inv k6
                  obtain ⟨k12, rfl⟩ := opt_inv k10
                  rw [k5] at k12
                  cases k12
                  refine iteT ⟨W0, W8, en4, rfl, ok8, eo8.le l8, dy, S11, by rw [es8]; exact k11, fun W9 l9 ok9 es9 yv ry => ?_⟩
                  have hD9 : W9.H D = some (.lst acc1) := l9.hh _ _ hD8 nI8
                  have nI9 : D ∉ W9.io := l9.nio hD8 nI8
                  have nF9 : W9.F D = none := l9.nf _ _ hD8 nF8
                  have hl : acc1.length = da1.length := rp6.len
                  have hy1 := congrArg List.length ey
                  have hy2 := congrArg List.length ey6
                  simp only [List.length_append, List.length_cons] at hy1 hy2
                  refine ⟨acc1, hD9, by omega, _, by omega, rfl, W9.wr D (.lst (acc1 ++ [yv])), acc1 ++ [yv], da1 ++ [dy], rfl, le_wr (le8.trans l9) hD, ⟨(lw8.trans l9.lw).ff, (lw8.trans l9.lw).ix⟩, (eo9.le l9).wrD hnd, ok_wr ok9 nF9 nI9, nF9, nI9, upd_same, (l9.rps (l8.rps (l7.rps rp6))).app (.cons ry .nil), hlt1, y7, ?_, ?_⟩
                  · show lcM T1 F1 (ds1.drop (j + 1)) W9.S = _
                    rw [es9]; exact k8
                  · rw [List.append_assoc]; exact ey6
            · have e0 : j = ds1.length := by omega
              subst e0
              refine .inl ⟨wk1.st W6 lw6 ok6, ?_⟩
              rw [List.drop_length] at eg6
              obtain ⟨rfl, hS⟩ := ret_inv (show M.ret [] W6.S = some (y6, S5) from eg6)
              rw [List.append_nil] at ey6
              subst ey6
              refine ⟨_, by omega, rfl, W6, acc1, _, rfl, le6, ok6, nF6, nI6, hD6, rp6, hlt, y3, ?_, ?_⟩
              · rw [← hS]; exact g8
              · rw [List.append_assoc]; exact ey
    · have e0 : i = ds.length := by omega
      subst e0
      refine .inl ⟨wk.st W2 le2 ok2, ?_⟩
      rw [List.drop_length] at eg
      obtain ⟨rfl, hS⟩ := ret_inv (show M.ret [] W2.S = some (y2, S') from eg)
      rw [List.append_nil] at ey
      subst ey
      have hz : acc.length ≤ sizeLine := by
        have := rp.len
        omega
      exact kk W2 (l1.trans le2) ok2 hS.symm D acc hat nF nI (l1.al _ hD) rp hz
theorem lc2_lst {own own1 : List Nat} {t t1 : Tg} {it it1 : Wi} {c c1 : Oe} {el : E} : ∀ en S d S', ev g (.lc2 own t it c own1 t1 it1 c1 el) en S = some (d, S') → ∃ xs, d = .lst xs := by
  intro en S d S' h
  obtain ⟨ds, S1, _, e2⟩ := bnd_inv h
  obtain ⟨ys, S2, _, e4⟩ := bnd_inv e2
  have e4 : (if ys.length ≤ sizeLine then M.ret (.lst ys) else M.no : M Cv.D) S2 = some (d, S') := e4
  split at e4
  · exact ⟨ys, (ret_inv e4).1⟩
  · cases e4
theorem f_lc2 {own own1 : List Nat} {t t1 : Tg} {it it1 : Wi} {c c1 : Oe} {el : E} (hi : JK g q k it) (hc : JC g q k c) (hi1 : JI g q k it1) (hc1 : JC g q k c1) (he : JE g q k el) : JF g q k (.lc2 own t it c own1 t1 it1 c1 el) := by
  intro z X e G F h
  unfold chk at h
  split at h
  · rename_i x tg i ifs tg1 i1 ifs1 s p hv
    cases vLc2_ok hv
    simp only [Bool.and_eq_true] at h
    obtain ⟨⟨⟨⟨⟨⟨⟨⟨⟨⟨⟨⟨h1, h2⟩, h2'⟩, h3⟩, h3'⟩, hv1⟩, h4⟩, h5⟩, h6⟩, h8⟩, h9⟩, h10⟩, h7⟩ := h
    have blk := blkOk_by (N := X.N) (sc := X.env.scope) (scope := s) (own := ownOf q.N own) (by rw [G.N, G.sc]; exact h1)
    have hown : ∀ i ∈ own1, i ∈ (ownOf q.N own).map (·.2) := fun i hi => by
      obtain ⟨y, hy, e⟩ := List.any_eq_true.mp (List.all_eq_true.mp hv1 i hi)
      exact List.mem_map.mpr ⟨y, hy, by simpa using e⟩
    have rule := pe_lc2 (pos := p) (elt := x) (ifs := ifs) (ifs1 := ifs1) (vs1 := own1) (te := tE X.kx g el) (tt := fun σ H Q => At X.kx σ H fun W en => Yl X.kx W (evc g c en) (fun _ v d => v = d) Q) (tt1 := fun σ H Q => At X.kx σ H fun W en => Yl X.kx W (evc g c1 en) (fun _ v d => v = d) Q)
      (g := tG X.kx t) (g1 := tG X.kx t1) (wi := tIc X.kx g it) (wi1 := tI X.kx g it1) G.calm G.nd (hi z X tg i G F h4) blk hown (fun s0 H0 C cl fp => pg_tg (G.blk s0 H0 s C cl fp) t tg h5)
      (fun s0 H0 C cl fp => hc _ _ ifs (G.blk s0 H0 s C cl fp) (F.blk s0 H0 s _ fp) h6) (fun s0 H0 C cl fp => hi1 _ _ tg1 i1 (G.blk s0 H0 s C cl fp) (F.blk s0 H0 s _ fp) h8) (fun s0 H0 C cl fp => pg_tg (G.blk s0 H0 s C cl fp) t1 tg1 h9)
      (fun s0 H0 C cl fp => hc1 _ _ ifs1 (G.blk s0 H0 s C cl fp) (F.blk s0 H0 s _ fp) h10) (fun s0 H0 C cl fp => he _ _ x (G.blk s0 H0 s C cl fp) (F.blk s0 H0 s _ fp) h7) (noSet_ok h2 X.env) (fun env => noSet_ok h2' env)
    rw [ownOf_ix] at rule
    exact PE.weaken rule (lc2_goF h3 h3')
  · cases h
theorem e_lc2 {own own1 : List Nat} {t t1 : Tg} {it it1 : Wi} {c c1 : Oe} {el : E} (hi : JK g q k it) (hc : JC g q k c) (hi1 : JI g q k it1) (hc1 : JC g q k c1) (he : JE g q k el) : JE g q k (.lc2 own t it c own1 t1 it1 c1 el) := (f_lc2 hi hc hi1 hc1 he).e lc2_lst
theorem f_lst {es : Es} (hs : JA g q k es) : JF g q k (.lst es) := by
  intro z X e G F h
  unfold chk at h
  split at h
  · rename_i l hv
    obtain ⟨pos, rfl⟩ := vList_ok hv
    simp only [Bool.and_eq_true, decide_eq_true_eq] at h
    refine PE.weaken (pe_lst (hs z X l G F h.1.2 h.2)) ?_
    rintro σ H Q ⟨W0, W, en, xs, S', rfl, ok, eo, e, kk⟩
    obtain ⟨ds, S3, e3, e4⟩ := bnd_inv e
    obtain ⟨e5, rfl⟩ := ret_inv e4
    cases e5
    refine ⟨W0, W, en, rfl, ok, eo, _, _, e3, fun W1 l1 ok1 es1 vs r => ?_⟩
    have hz : vs.length ≤ sizeLine := line1000 (by rw [r.len, evs_len e3, ← chks_len h.2]; exact h.1.1)
    refine ⟨hz, fun p hp => kk (W1.ad p (.lst vs)) (l1.trans (le_ad hp)) (ok_ad ok1 hp) es1 p vs upd_same (ok1.fnone hp) (fun hm => ?_) (l1.al _ hp) r hz⟩
    obtain ⟨kv, b1, b2⟩ := ok1.alive hm
    rw [hp] at b1; cases b1
  · cases h
theorem f_add {a b : E} (ha : JR g q k a) (hb : JR g q k b) : JF g q k (.bin .add a b) := by
  intro z X e G F h
  unfold chk at h
  split at h
  · rename_i x p y hv
    obtain ⟨pos, rfl⟩ := vBin_ok hv
    simp only [Bool.and_eq_true, decide_eq_true_eq] at h
    obtain ⟨⟨rfl, h1⟩, h2⟩ := h
    refine PE.weaken (pe_op op_catL (ha z X x G F h1) (hb z X y G F h2)) ?_
    rintro σ H Q ⟨W0, W, en, xs, S', rfl, ok, eo, e, kk⟩
    obtain ⟨d1, S1, e1, e⟩ := bnd_inv e
    obtain ⟨d2, S2, e2, e⟩ := bnd_inv e
    obtain ⟨e3, rfl⟩ := opt_inv e
    refine ⟨W0, W, en, rfl, ok, eo, _, _, e1, fun W1 l1 ok1 es1 v r => ?_⟩
    refine ⟨W0, W1, en, rfl, ok1, eo.le l1, _, _, by rw [es1]; exact e2, fun W2 l2 ok2 es2 v2 r2 => ?_⟩
    have r := l2.rd r
    cases r with
    | lst hx lx rx =>
      cases r2 with
      | lst hy ly ry =>
        obtain ⟨hz, e4⟩ := ifp_some (show (if _ then some (D.lst _) else none) = some (D.lst xs) from e3)
        cases e4
        have hz2 : _ ≤ sizeLine := hz
        rw [← Reps.len rx, ← Reps.len ry] at hz2
        refine ⟨_, _, _, _, rfl, rfl, hx.ls ok2, hy.ls ok2, hz2, fun p hp => ?_⟩
        refine kk (W2.ad p (.lst _)) ((l1.trans l2).trans (le_ad hp)) (ok_ad ok2 hp) es2 p _ upd_same (ok2.fnone hp) (fun hm => ?_) ((l1.trans l2).al _ hp) (rx.app ry) (by rw [List.length_append]; exact hz2)
        obtain ⟨kv, b1, b2⟩ := ok2.alive hm
        rw [hp] at b1; cases b1
      | _ => cases e3
    | tup hx lx rx =>
      cases r2 with
      | tup hy ly ry =>
        obtain ⟨hz, e4⟩ := ifp_some (show (if _ then some (D.tup _) else none) = some (D.lst xs) from e3)
        cases e4
      | _ => cases e3
    | str i =>
      cases r2 with
      | str j =>
        obtain ⟨hz, e4⟩ := ifp_some (show (if _ then some (D.str _) else none) = some (D.lst xs) from e3)
        cases e4
      | _ => cases e3
    | _ => cases d2 <;> cases e3
  · cases h
theorem call_listX {X : Cx} (hc : X.calm = true) : CallR X (.type "list") (fun xs H Q => (∃ p ys, xs = [.ref p] ∧ (SqL X.K H p ys ∨ SqT X.K H p ys) ∧ ∀ l, H l = none → Q (.ref l) (upd H l (.lst ys))) ∨ rLstKy X.w xs H Q ∨ rLstIt X.w xs H Q) := by
  intro pins s σ H xs us Q I r h
  rcases h with h | h | h
  · exact call_list_of pins s σ H xs us Q I r h
  · exact cr_lstKy hc pins s σ H xs us Q I r h
  · exact cr_lstIt hc pins s σ H xs us Q I r h
theorem f_list {a : E} (ha : JR g q k a) : JF g q k (.b1 .list a) := by
  intro z X e G F h
  unfold chk at h
  split at h
  · rename_i n x hv
    obtain ⟨p, pos, rfl⟩ := vCall_ok hv
    simp only [Bool.and_eq_true, decide_eq_true_eq] at h
    obtain ⟨⟨⟨rfl, h1⟩, h2⟩, h3⟩ := h
    have hs := star_each h2 [] X.env
    refine PE.weaken (pe_callTy (call_listX G.calm) (G.gb h1) (G.no .list) B1.list.boot (pa_cons (ha z X x G F h3) pa_nil hs) (by decide) (by decide) hs rfl) ?_
    rintro σ H Q ⟨W0, W, en, xs, S', rfl, ok, eo, e, kk⟩
    obtain ⟨d1, S1, e1, e⟩ := bnd_inv e
    obtain ⟨e3, rfl⟩ := opt_inv e
    refine ⟨W0, W, en, rfl, ok, eo, _, _, e1, fun W1 l1 ok1 es1 v r => ?_⟩
    have no : ∀ p, W1.H p = none → p ∉ W1.io := fun p hp hm => by
      obtain ⟨kv, b1, b2⟩ := ok1.alive hm
      rw [hp] at b1; cases b1
    cases r with
    | lst hx lx rx =>
      cases e3
      exact .inl ⟨_, _, rfl, .inl (hx.sq ok1), fun p hp => kk (W1.ad p (.lst _)) (l1.trans (le_ad hp)) (ok_ad ok1 hp) es1 p _ upd_same (ok1.fnone hp) (no p hp) (l1.al _ hp) rx lx⟩
    | tup hx lx rx =>
      cases e3
      exact .inl ⟨_, _, rfl, .inr (ok1.sqT hx), fun p hp => kk (W1.ad p (.lst _)) (l1.trans (le_ad hp)) (ok_ad ok1 hp) es1 p _ upd_same (ok1.fnone hp) (no p hp) (l1.al _ hp) rx lx⟩
    | @dct a L ks vs hx hl rx rv ek =>
      cases e3
      exact .inr (.inl ⟨a, L, rfl, hx.at_ ok1, hl, fun p hp => kk (W1.ad p (.lst _)) (l1.trans (le_ad hp)) (ok_ad ok1 hp) es1 p _ upd_same (ok1.fnone hp) (no p hp) (l1.al _ hp) rx (by rw [List.length_map]; exact hl)⟩)
    | @itv v a o L ks vs hv hx lx rx ry ek =>
      cases e3
      refine .inr (.inr ⟨v, a, L, rfl, ok1.ex _ _ hv, .inr ⟨o, ok1.ex _ _ hx⟩, lx, fun H2 as q it hq => ?_⟩)
      have ok2 := its_ok ok1 it
      have l2 := its_le ok1 it
      refine kk ((W1.its H2 as).ad q (.lst _)) ((l1.trans l2).trans (le_ad hq)) (ok_ad ok2 hq) es1 q _ upd_same (ok2.fnone hq) (fun hm => ?_) ((l1.trans l2).al _ hq) (its_rps ok1 it rx ry) (by rw [List.length_map, it.len]; exact lx)
      obtain ⟨kv, b1, b2⟩ := ok2.alive hm
      rw [show (W1.its H2 as).H q = none from hq] at b1; cases b1
    | _ => cases e3
  · cases h
theorem e_rev {a : E} (ha : JR g q k a) : JE g q k (.rev a) := by
  intro z X e G F h
  unfold chk at h
  split at h
  · rename_i x k0 p1 p2 p3 hv
    obtain ⟨p, rfl⟩ := vSub_ok hv
    refine PE.weaken (pe_back (ha z X x G F h)) ?_
    rintro σ H Q ⟨W0, W, en, rfl, ok, eo, hy⟩
    refine at_R ok eo hy fun W1 v d l1 ok1 eo1 r1 hy1 => ?_
    obtain ⟨d3, e3, k3⟩ := yl_opt hy1
    cases r1 with
    | lst hx lx rx =>
      cases e3
      exact .inl ⟨_, _, rfl, hx.sq ok1, fun p hp => aft_new ok1 k3 hp (rp_newL ok1 hp (by rw [List.length_reverse]; exact lx) rx.rev)⟩
    | tup hx lx rx =>
      cases e3
      exact .inr ⟨_, _, rfl, ok1.sqT hx, fun p o ho hp => aft_new ok1 k3 hp (rp_newT ok1 ho hp (by rw [List.length_reverse]; exact lx) rx.rev)⟩
    | _ => cases e3
  · cases h
theorem getO_inv {n : Nat} {key : Str} {S S' : Sto} {d : D} (h : getO n key S = some (d, S')) : ∃ fs, S[n]? = some (.fl fs) ∧ look key fs = some d ∧ S' = S := by
  unfold getO at h
  split at h
  · rename_i fs hf
    cases e : look key fs with
    | none => rw [e] at h; cases h
    | some d0 =>
      rw [e] at h
      cases h
      exact ⟨fs, hf, e, rfl⟩
  · cases h
theorem e_fld {o : E} {key : Str} (ho : JE g q k o) : JE g q k (.fld o key) := by
  intro z X e G F h
  unfold chk at h
  split at h
  · rename_i x y hv
    obtain ⟨p, rfl⟩ := vSub_ok hv
    rw [Bool.and_eq_true] at h
    obtain ⟨h1, h2⟩ := h
    split at h2
    · rename_i c hc
      obtain ⟨j, pos, rfl⟩ := vConst_ok hc
      cases constB_ok h2
      refine PE.weaken (pe_dget (by have := G.un; omega) (ho z X x G F h1) pe_str (fun _ _ => rfl)) ?_
      rintro σ H Q ⟨W0, W, en, rfl, ok, eo, hy⟩
      refine at_E ok eo hy fun W1 v d l1 ok1 eo1 r1 hy1 => ?_
      obtain ⟨n, rfl, hy2⟩ := yl_isO hy1
      obtain ⟨d3, S3, e3, k3⟩ := hy2
      obtain ⟨fs, e4, e5, rfl⟩ := getO_inv e3
      cases r1 with
      | obj hn =>
        obtain ⟨a, ho, a1, a2, a3, kvs, rfl, az, an, af⟩ := ok1.ob n _ e4
        rw [hn] at a1
        cases a1
        obtain ⟨v, g1, g2⟩ := flds_look af e5
        refine ⟨_, v, rfl, ?_, aft_here ok1 k3 g2⟩
        have := DGet.k (k := (Sum.inr key : Key)) a2
        rw [g1] at this
        exact this
    · cases h2
  · cases h
def trs (K : Kx) (g : Cf) : List Str → Es → List (TE × TE)
  | key :: ks, .c e r => (tC (.str key), tE K g e) :: trs K g ks r
  | _, _ => []
def JP (g : Cf) (q : Ck) (k : Nat) (es : Es) : Prop := ∀ (z : Zs) (X : Cx) (pos : Pos) (ks : List Str) (kes : List (Option Expr)) (l : List Expr), Gd q z X → Fs g q k X → keyB ks kes = true → kes.length = l.length → chks q es z l = true → PPs X pos kes l (trs X.kx g ks es)
theorem p_n : JP g q k .n := by
  intro z X pos ks kes l G F hk hl h
  cases l with
  | nil =>
    cases kes with
    | nil =>
      cases ks with
      | nil => exact pps_nil
      | cons => cases hk
    | cons => cases hl
  | cons => cases h
theorem p_c {a : E} {r : Es} (ha : JE g q k a) (hr : JP g q k r) : JP g q k (.c a r) := by
  intro z X pos ks kes l G F hk hl h
  cases l with
  | nil => cases h
  | cons e es =>
    have h := Bool.and_eq_true_iff.mp (show (chk q a false z e && chks q r z es) = true from h)
    match kes, ks, hk with
    | some ke :: kes, key :: ks, hk =>
      have hk := Bool.and_eq_true_iff.mp (show ((match vConst ke with
        | some c => constB c key
        | none => false) && keyB ks kes) = true from hk)
      obtain ⟨hk1, hk2⟩ := hk
      split at hk1
      · rename_i c hc
        obtain ⟨j, p, rfl⟩ := vConst_ok hc
        cases constB_ok hk1
        exact pps_cons pe_str (ha z X e G F h.1) (hr z X pos ks kes es G F hk2 (by simpa using hl) h.2)
      · cases hk1
    | none :: _, [], hk => cases hk
    | none :: _, _ :: _, hk => cases hk
/-- the pairs of an object's display -/
theorem pairs_go {K : Kx} {W0 : Wd} {en : En} {σ : L2.St} : ∀ {es : Es} {ks : List Str} {W : Wd} {ds : List D} {S' : Sto} {Q : List (V × V) → Hp → Prop}, W.Ok K → EnOk K W0 W en σ → evs g es en W.S = some (ds, S') → ks.length = ds.length →
    (∀ W1, Le W W1 → W1.Ok K → W1.S = S' → ∀ kvs : List (Key × V), Flds K W1.F W1.io (zipKs ks ds) kvs → Q (kvs.map fun kv => (kV kv.1, kv.2)) W1.H) → tPairs (trs K g ks es) σ W.H Q
  | .n, ks, W, ds, S', Q, ok, eo, h, hl, kk => by
    obtain ⟨rfl, rfl⟩ := ret_inv h
    cases ks with
    | nil => exact kk W (Le.refl _) ok rfl [] .nil
    | cons => cases hl
  | .c a r, [], W, ds, S', Q, ok, eo, h, hl, kk => by
    obtain ⟨x, S1, _, h⟩ := bnd_inv h
    obtain ⟨xs, S2, h2, h⟩ := bnd_inv h
    obtain ⟨rfl, _⟩ := ret_inv h
    cases hl
  | .c a r, key :: ks, W, ds, S', Q, ok, eo, h, hl, kk => by
    obtain ⟨x, S1, h1, h⟩ := bnd_inv h
    obtain ⟨xs, S2, h2, h⟩ := bnd_inv h
    obtain ⟨h3, h4⟩ := ret_inv h
    subst h3 h4
    refine ⟨W0, W, en, rfl, ok, eo, x, S1, h1, fun W1 l1 ok1 es1 v rv => ?_⟩
    refine pairs_go ok1 (eo.le l1) (by rw [es1]; exact h2) (by simpa using hl) fun W2 l2 ok2 es2 kvs fl => ?_
    exact kk W2 (l1.trans l2) ok2 es2 ((Sum.inr key, v) :: kvs) (.cons (l2.rp rv) fl)
theorem zipKs_keys : ∀ {ks : List Str} {ds : List D}, ks.length = ds.length → (zipKs ks ds).map (·.1) = ks
  | [], [], _ => rfl
  | [], _ :: _, h => nomatch h
  | _ :: _, [], h => nomatch h
  | k :: ks, d :: ds, h => by
    show k :: (zipKs ks ds).map (·.1) = _
    rw [zipKs_keys (by simpa using h)]
theorem nodup_inr : ∀ {l : List Str}, l.Nodup → (l.map fun s => (Sum.inr s : Key)).Nodup
  | [], _ => List.nodup_nil
  | x :: xs, h => by
    rw [List.nodup_cons] at h
    rw [List.map_cons, List.nodup_cons]
    refine ⟨fun hm => ?_, nodup_inr h.2⟩
    obtain ⟨y, hy, e⟩ := List.mem_map.mp hm
    cases e
    exact h.1 hy
theorem keyB_len : ∀ {ks : List Str} {kes : List (Option Expr)}, keyB ks kes = true → ks.length = kes.length ∧ kes.all (·.isSome) = true
  | [], [], _ => ⟨rfl, rfl⟩
  | [], _ :: _, h => nomatch h
  | k :: ks, some e :: es, h => by
    obtain ⟨h1, h2⟩ := keyB_len (Bool.and_eq_true_iff.mp (show (_ && keyB ks es) = true from h)).2
    exact ⟨by rw [List.length_cons, List.length_cons, h1], by rw [List.all_cons, h2]; rfl⟩
  | k :: ks, none :: es, h => nomatch h
  | _ :: _, [], h => nomatch h
theorem e_mko {ks : List Str} {es : Es} (hs : JP g q k es) : JE g q k (.mko ks es) := by
  intro z X e G F h
  unfold chk at h
  split at h
  · rename_i kes l hv
    obtain ⟨pos, rfl⟩ := vDict_ok hv
    simp only [Bool.and_eq_true, decide_eq_true_eq] at h
    obtain ⟨⟨⟨⟨⟨⟨h1, h2⟩, h3⟩, h4⟩, h5⟩, h6⟩, h7⟩ := h
    obtain ⟨kl, ka⟩ := keyB_len h1
    refine PE.weaken (pe_disp (hs z X pos ks kes l G F h1 h2 h7) ka h2 (fun e => by subst e; simp at h3) h4) ?_
    rintro σ H Q ⟨W0, W, en, rfl, ok, eo, d, S', hd, kk⟩ p hp
    obtain ⟨ds, S1, e1, e2⟩ := bnd_inv hd
    have hl := evs_len e1
    have hl2 := chks_len h7
    have hkl : ks.length = ds.length := by omega
    have e3 : some (D.obj S1.length, S1 ++ [.fl (zipKs ks ds)]) = some (d, S') := e2
    cases e3
    have okp := ok_ad ok hp (o := .dK [])
    have lp := le_ad hp (o := .dK [])
    refine pairs_go (W := W.ad p (.dK [])) (ds := ds) (S' := S1) okp (eo.le lp) e1 hkl fun W1 l1 ok1 es1 kvs fl => ?_
    have np : p ∉ W.io := fun hm => by
      obtain ⟨kv, a1, a2⟩ := ok.alive hm
      rw [hp] at a1; cases a1
    have hp1 : (W.ad p (.dK [])).H p = some (.dK []) := upd_same
    have np1 : p ∉ W1.io := l1.nio hp1 np
    have nF1 : W1.F p = none := l1.nf _ _ hp1 (ok.fnone hp)
    have at1 := l1.hh _ _ hp1 np
    have kn : (kvs.map (·.1)).Nodup := by
      rw [flds_keys fl]
      have := nodup_inr h5
      rw [← zipKs_keys hkl, List.map_map] at this
      exact this
    have kz : kvs.length ≤ 15 := by
      have := congrArg List.length (flds_keys fl)
      rw [List.length_map, List.length_map] at this
      have h9 := congrArg List.length (zipKs_keys hkl)
      rw [List.length_map] at h9
      omega
    refine ⟨at1, kvs, rfl, kz, ?_⟩
    rw [merge_nd kvs [] kn (fun _ _ => rfl), List.nil_append]
    have okn := ok_nw ok1 (fs := .fl (zipKs ks ds)) (ho := .dK kvs) nF1 np1 ⟨kvs, rfl, by omega, by rw [zipKs_keys hkl]; exact h5, fl⟩
    have len : S1.length = W1.io.length := by rw [← es1]; exact ok1.le
    refine kk (W1.nw p (.fl (zipKs ks ds)) (.dK kvs)) ?_ okn (by show W1.S ++ _ = _; rw [es1]) (.ref p) (.obj ?_)
    · refine ⟨fun a o e => l1.ff a o e, fun a o e hn => ?_, fun a o e n => ?_, fun a e => ?_, ?_⟩
      · show upd W1.H p _ a = some o
        have ne : a ≠ p := ne_of_none e hp
        rw [upd_ne ne]
        exact (lp.trans l1).hh a o e hn
      · exact (lp.trans l1).nf a o e n
      · have e' : upd W1.H p (.dK kvs) a = none := e
        by_cases z : a = p
        · rw [z]; exact hp
        · rw [upd_ne z] at e'
          exact (lp.trans l1).al a e'
      · obtain ⟨m, em, hm⟩ := (lp.trans l1).io
        refine ⟨m ++ [p], by show W1.io ++ [p] = _; rw [em, List.append_assoc], fun a ha => ?_⟩
        rcases List.mem_append.mp ha with z | z
        · exact hm a z
        · rw [List.mem_singleton.mp z]; exact hp
    · show (W1.io ++ [p])[S1.length]? = some p
      rw [len, List.getElem?_append_right (Nat.le_refl _)]
      simp
  · cases h

theorem getI_inv {n i : Nat} {S S' : Sto} {d : D} (h : getI n i S = some (d, S')) : ∃ ds, S[n]? = some (.cel ds) ∧ ds[i]? = some d ∧ S' = S := by
  unfold getI at h
  split at h
  · rename_i ds hf
    cases e : ds[i]? with
    | none => rw [e] at h; cases h
    | some d0 =>
      rw [e] at h
      cases h
      exact ⟨ds, hf, e, rfl⟩
  · cases h
theorem e_fldi {o : E} {i : Nat} (ho : JE g q k o) : JE g q k (.fldi o i) := by
  intro z X e G F h
  unfold chk at h
  split at h
  · rename_i x y hv
    obtain ⟨p, rfl⟩ := vSub_ok hv
    rw [Bool.and_eq_true] at h
    obtain ⟨h1, h2⟩ := h
    split at h2
    · rename_i j hc
      obtain ⟨j0, pos, rfl⟩ := vConst_ok hc
      cases of_decide_eq_true h2
      refine PE.weaken (pe_ix ix_list (ho z X x G F h1) pe_int (plainIx rfl)) ?_
      rintro σ H Q ⟨W0, W, en, rfl, ok, eo, hy⟩
      refine at_E ok eo hy fun W1 v d l1 ok1 eo1 r1 hy1 => ?_
      obtain ⟨n, rfl, hy2⟩ := yl_isO hy1
      obtain ⟨d3, S3, e3, k3⟩ := hy2
      obtain ⟨ds, e4, e5, rfl⟩ := getI_inv e3
      cases r1 with
      | obj hn =>
        obtain ⟨a, ho, a1, a2, a3, vs, rfl, az, ar⟩ := ok1.ob n _ e4
        rw [hn] at a1
        cases a1
        obtain ⟨v, g1, g2⟩ := Reps.get ar e5
        exact ⟨_, vs, (i : Int), v, rfl, rfl, .inl (.inl a2), atI_nat g1, aft_here ok1 k3 g2⟩
    · cases h2
  · cases h
/-- an object comes to be at p -/
theorem le_nw {W W1 : Wd} {p : Addr} {u : Ob} {ho : HO} (l1 : Le W W1) (hp : W.H p = none) : Le W (W1.nw p u ho) := by
  refine ⟨fun a o e => l1.ff a o e, fun a o e hn => ?_, fun a o e n => l1.nf a o e n, fun a e => ?_, ?_⟩
  · show upd W1.H p _ a = some o
    have ne : a ≠ p := ne_of_none e hp
    rw [upd_ne ne]
    exact l1.hh a o e hn
  · have e' : upd W1.H p ho a = none := e
    by_cases z : a = p
    · rw [z]; exact hp
    · rw [upd_ne z] at e'
      exact l1.al a e'
  · obtain ⟨m, em, hm⟩ := l1.io
    refine ⟨m ++ [p], by show W1.io ++ [p] = _; rw [em, List.append_assoc], fun a ha => ?_⟩
    rcases List.mem_append.mp ha with z | z
    · exact hm a z
    · rw [List.mem_singleton.mp z]; exact hp
theorem e_mkl {es : Es} (hs : JA g q k es) : JE g q k (.mkl es) := by
  intro z X e G F h
  unfold chk at h
  split at h
  · rename_i l hv
    obtain ⟨pos, rfl⟩ := vList_ok hv
    simp only [Bool.and_eq_true, decide_eq_true_eq] at h
    refine PE.weaken (pe_lst (hs z X l G F h.1.2 h.2)) ?_
    rintro σ H Q ⟨W0, W, en, rfl, ok, eo, hy⟩
    refine at_Es ok eo hy fun W2 vs ds l2 ok2 eo2 r2 hl hy2 => ?_
    have hz : vs.length ≤ 1000 := by rw [hl, ← chks_len h.2]; exact h.1.1
    refine ⟨line1000 hz, fun p hp => ?_⟩
    obtain ⟨d, S', e3, kk⟩ := hy2
    have e3 : some (D.obj W2.S.length, W2.S ++ [.cel ds]) = some (d, S') := e3
    cases e3
    have np : p ∉ W2.io := fun hm => by
      obtain ⟨kv, a1, a2⟩ := ok2.alive hm
      rw [hp] at a1; cases a1
    refine kk (W2.nw p (.cel ds) (.lst vs)) (le_nw (Le.refl _) hp) (ok_nw ok2 (ok2.fnone hp) np ⟨vs, rfl, hz, r2⟩) rfl (.ref p) (.obj ?_)
    show (W2.io ++ [p])[W2.S.length]? = some p
    rw [ok2.le, List.getElem?_append_right (Nat.le_refl _)]
    simp
  · cases h
mutual
theorem all_E : ∀ c : E, JE g q k c
  | .var _ => e_var
  | .rd _ => e_rd
  | .glo _ => e_glo
  | .int _ => e_int
  | .str _ => e_str
  | .bl _ => e_bl
  | .non => e_non
  | .tup es => e_tup (all_A es)
  | .lst es => e_lst (all_A es)
  | .bin _ a b => e_bin (all_R a) (all_R b)
  | .neg a => e_neg (all_E a)
  | .cmp _ a b => e_cmp (all_R a) (all_R b)
  | .chn _ _ a b c => e_chn (all_R a) (all_R b) (all_R c)
  | .and a b => e_and (all_E a) (all_E b)
  | .or a b => e_or (all_E a) (all_E b)
  | .not a => e_not (all_E a)
  | .ife c a b => e_ife (all_T c) (all_E a) (all_E b)
  | .idx a i => e_idx (all_R a) (all_E i)
  | .sli a lo hi => e_sli (all_R a) (all_O lo) (all_O hi)
  | .rev a => e_rev (all_R a)
  | .isi a _ => e_isi (all_R a)
  | .b1 _ a => e_b1 (all_R a)
  | .m0 _ a => e_m0 (all_E a)
  | .call _ es => e_call (all_A es)
  | .lc1 _ _ it c e => e_lc1 (all_K it) (all_C c) (all_E e)
  | .sc1 _ _ it c e => e_sc1 (all_K it) (all_C c) (all_E e)
  | .lc2 _ _ it c _ _ it1 c1 e => e_lc2 (all_K it) (all_C c) (all_I it1) (all_C c1) (all_E e)
  | .fld o _ => e_fld (all_E o)
  | .mko _ es => e_mko (all_P es)
  | .fldi o _ => e_fldi (all_E o)
  | .mkl es => e_mkl (all_A es)
  | .prim _ es => e_prim (all_Q es)
theorem all_R : ∀ c : E, JR g q k c
  | .var _ => (e_var : JE g q k _).r fun _ _ => rfl
  | .rd _ => r_rd
  | .glo _ => (e_glo : JE g q k _).r fun _ _ => rfl
  | .int _ => (e_int : JE g q k _).r fun _ _ => rfl
  | .str _ => (e_str : JE g q k _).r fun _ _ => rfl
  | .bl _ => (e_bl : JE g q k _).r fun _ _ => rfl
  | .non => (e_non : JE g q k _).r fun _ _ => rfl
  | .tup es => (e_tup (all_A es) : JE g q k _).r fun _ _ => rfl
  | .lst es => (e_lst (all_A es) : JE g q k _).r fun _ _ => rfl
  | .bin _ a b => (e_bin (all_R a) (all_R b) : JE g q k _).r fun _ _ => rfl
  | .neg a => (e_neg (all_E a) : JE g q k _).r fun _ _ => rfl
  | .cmp _ a b => (e_cmp (all_R a) (all_R b) : JE g q k _).r fun _ _ => rfl
  | .chn _ _ a b c => (e_chn (all_R a) (all_R b) (all_R c) : JE g q k _).r fun _ _ => rfl
  | .and a b => (e_and (all_E a) (all_E b) : JE g q k _).r fun _ _ => rfl
  | .or a b => (e_or (all_E a) (all_E b) : JE g q k _).r fun _ _ => rfl
  | .not a => (e_not (all_E a) : JE g q k _).r fun _ _ => rfl
  | .ife c a b => (e_ife (all_T c) (all_E a) (all_E b) : JE g q k _).r fun _ _ => rfl
  | .idx a i => (e_idx (all_R a) (all_E i) : JE g q k _).r fun _ _ => rfl
  | .sli a lo hi => (e_sli (all_R a) (all_O lo) (all_O hi) : JE g q k _).r fun _ _ => rfl
  | .rev a => (e_rev (all_R a) : JE g q k _).r fun _ _ => rfl
  | .isi a _ => (e_isi (all_R a) : JE g q k _).r fun _ _ => rfl
  | .b1 _ a => (e_b1 (all_R a) : JE g q k _).r fun _ _ => rfl
  | .m0 _ a => (e_m0 (all_E a) : JE g q k _).r fun _ _ => rfl
  | .call _ es => (e_call (all_A es) : JE g q k _).r fun _ _ => rfl
  | .lc1 _ _ it c e => (e_lc1 (all_K it) (all_C c) (all_E e) : JE g q k _).r fun _ _ => rfl
  | .sc1 _ _ it c e => (e_sc1 (all_K it) (all_C c) (all_E e) : JE g q k _).r fun _ _ => rfl
  | .lc2 _ _ it c _ _ it1 c1 e => (e_lc2 (all_K it) (all_C c) (all_I it1) (all_C c1) (all_E e) : JE g q k _).r fun _ _ => rfl
  | .fld o _ => (e_fld (all_E o) : JE g q k _).r fun _ _ => rfl
  | .mko _ es => (e_mko (all_P es) : JE g q k _).r fun _ _ => rfl
  | .fldi o _ => (e_fldi (all_E o) : JE g q k _).r fun _ _ => rfl
  | .mkl es => (e_mkl (all_A es) : JE g q k _).r fun _ _ => rfl
  | .prim _ es => (e_prim (all_Q es) : JE g q k _).r fun _ _ => rfl
theorem all_T : ∀ c : E, JT g q k c
  | .cmp _ a b => t_cmp (all_R a) (all_R b)
  | .chn _ _ a b c => t_chn (all_R a) (all_R b) (all_R c)
  | .and a b => t_and (all_T a) (all_T b)
  | .or a b => t_or (all_T a) (all_T b)
  | .not a => t_not (all_T a)
  | .var _ => t_var
  | .bl _ => t_bl
  | .isi a _ => t_isi (all_R a)
  | .b1 _ a => t_b1 (all_R a)
  | .call _ es => t_call (all_A es)
  | .glo _ => fun _ _ _ _ _ h => nomatch h
  | .int _ => fun _ _ _ _ _ h => nomatch h
  | .str _ => fun _ _ _ _ _ h => nomatch h
  | .non => fun _ _ _ _ _ h => nomatch h
  | .tup _ => fun _ _ _ _ _ h => nomatch h
  | .lst _ => fun _ _ _ _ _ h => nomatch h
  | .bin _ a b => t_bin (all_R a) (all_R b)
  | .idx a i => t_idx (all_R a) (all_E i)
  | .rd _ => t_rd
  | .prim _ es => t_prim (all_Q es)
  | .neg _ => fun _ _ _ _ _ h => nomatch h
  | .ife _ _ _ => fun _ _ _ _ _ h => nomatch h
  | .sli _ _ _ => fun _ _ _ _ _ h => nomatch h
  | .rev _ => fun _ _ _ _ _ h => nomatch h
  | .m0 _ _ => fun _ _ _ _ _ h => nomatch h
  | .lc1 _ _ _ _ _ => fun _ _ _ _ _ h => nomatch h
  | .lc2 _ _ _ _ _ _ _ _ _ => fun _ _ _ _ _ h => nomatch h
  | .sc1 _ _ _ _ _ => fun _ _ _ _ _ h => nomatch h
  | .fld _ _ => fun _ _ _ _ _ h => nomatch h
  | .mko _ _ => fun _ _ _ _ _ h => nomatch h
  | .fldi _ _ => fun _ _ _ _ _ h => nomatch h
  | .mkl _ => fun _ _ _ _ _ h => nomatch h
theorem all_A : ∀ c : Es, JA g q k c
  | .n => a_n
  | .c e r => a_c (all_E e) (all_A r)
theorem all_Q : ∀ c : Es, JQ g q k c
  | .n => q_n
  | .c e r => q_c (all_E e) (all_R e) (all_Q r)
theorem all_P : ∀ c : Es, JP g q k c
  | .n => p_n
  | .c e r => p_c (all_E e) (all_P r)
theorem all_O : ∀ c : Oe, JO g q k c
  | .n => o_n
  | .s e => o_s (all_E e)
theorem all_C : ∀ c : Oe, JC g q k c
  | .n => c_n
  | .s e => c_s (all_T e)
theorem all_I : ∀ c : Wi, JI g q k c
  | .sq e => i_sq (all_E e)
  | .rg1 e => i_rg1 (all_E e)
  | .rg2 a b => i_rg2 (all_E a) (all_E b)
  | .zip _ a b => i_zip (all_E a) (all_E b)
  | .prim _ es => i_prim (all_Q es)
theorem all_K : ∀ c : Wi, JK g q k c
  | .sq e => k_sq (all_R e)
  | .rg1 e => ji_k (i_rg1 (all_E e)) fun _ _ _ => rfl
  | .rg2 a b => ji_k (i_rg2 (all_E a) (all_E b)) fun _ _ _ => rfl
  | .zip f a b => ji_k (i_zip (f := f) (all_E a) (all_E b)) fun _ _ _ => rfl
  | .prim _ es => k_prim (all_Q es)
end
end
end Cv

/-! Cv11: statements. -/
namespace Cv
open PySem PySem.Spec PyProof.Rows L2

/-! ### views -/
def vAsg : Stmt → Option (Expr × Expr × Pos)
  | .Assign [t] v p => some (t, v, p)
  | _ => none
theorem vAsg_ok {s : Stmt} {t v : Expr} {p : Pos} (h : vAsg s = some (t, v, p)) : s = .Assign [t] v p := by
  unfold vAsg at h
  split at h
  · cases h; rfl
  · cases h
def vEx : Stmt → Option Expr
  | .Expr e _ => some e
  | _ => none
theorem vEx_ok {s : Stmt} {e : Expr} (h : vEx s = some e) : ∃ p, s = .Expr e p := by
  cases s <;> first | (cases h; done) | (cases h; exact ⟨_, rfl⟩)
def vRet : Stmt → Option (Option Expr)
  | .Return e _ => some e
  | _ => none
theorem vRet_ok {s : Stmt} {e : Option Expr} (h : vRet s = some e) : ∃ p, s = .Return e p := by
  cases s <;> first | (cases h; done) | (cases h; exact ⟨_, rfl⟩)
def vIfS : Stmt → Option (Expr × List Stmt × List Stmt)
  | .If c a b _ => some (c, a, b)
  | _ => none
theorem vIfS_ok {s : Stmt} {c : Expr} {a b : List Stmt} (h : vIfS s = some (c, a, b)) : ∃ p, s = .If c a b p := by
  cases s <;> first | (cases h; done) | (cases h; exact ⟨_, rfl⟩)
def vWhl : Stmt → Option (Expr × List Stmt)
  | .While c a [] _ => some (c, a)
  | _ => none
theorem vWhl_ok {s : Stmt} {c : Expr} {a : List Stmt} (h : vWhl s = some (c, a)) : ∃ p, s = .While c a [] p := by
  unfold vWhl at h
  split at h
  · cases h; exact ⟨_, rfl⟩
  · cases h
def vFor : Stmt → Option (Expr × Expr × List Stmt)
  | .For t i a [] _ => some (t, i, a)
  | _ => none
theorem vFor_ok {s : Stmt} {t i : Expr} {a : List Stmt} (h : vFor s = some (t, i, a)) : ∃ p, s = .For t i a [] p := by
  unfold vFor at h
  split at h
  · cases h; exact ⟨_, rfl⟩
  · cases h
def isPass : Stmt → Bool
  | .Pass _ => true
  | .Expr (.Constant (.str _) _ _) _ => true
  | _ => false
def isBrk : Stmt → Bool
  | .Break _ => true
  | _ => false
theorem isBrk_ok {s : Stmt} (h : isBrk s = true) : ∃ p, s = .Break p := by
  cases s <;> first | (cases h; done) | exact ⟨_, rfl⟩
def isCt : Stmt → Bool
  | .Continue _ => true
  | _ => false
theorem isCt_ok {s : Stmt} (h : isCt s = true) : ∃ p, s = .Continue p := by
  cases s <;> first | (cases h; done) | exact ⟨_, rfl⟩
/-- x.append(e) -/
def vApp : Expr → Option (Str × Expr × Pos × Pos)
  | .Call (.Attribute (.Name x _) m p1) [e] [] p2 => if m = "append" then some (x, e, p1, p2) else none
  | _ => none
theorem vApp_ok {c e : Expr} {x : Str} {p1 p2 : Pos} (h : vApp c = some (x, e, p1, p2)) : ∃ p0, c = .Call (.Attribute (.Name x p0) "append" p1) [e] [] p2 := by
  unfold vApp at h
  split at h
  · split at h
    · rename_i e; subst e; cases h; exact ⟨_, rfl⟩
    · cases h
  · cases h
/-- x.extend(e) -/
def vExt : Expr → Option (Str × Expr × Pos × Pos)
  | .Call (.Attribute (.Name x _) m p1) [e] [] p2 => if m = "extend" then some (x, e, p1, p2) else none
  | _ => none
theorem vExt_ok {c e : Expr} {x : Str} {p1 p2 : Pos} (h : vExt c = some (x, e, p1, p2)) : ∃ p0, c = .Call (.Attribute (.Name x p0) "extend" p1) [e] [] p2 := by
  unfold vExt at h
  split at h
  · split at h
    · rename_i e; subst e; cases h; exact ⟨_, rfl⟩
    · cases h
  · cases h
/-- it gives a list no one else holds -/
def isFr : E → Bool
  | .lst _ => true
  | .bin .add _ _ => true
  | .b1 .list _ => true
  | .lc1 _ _ _ _ _ => true
  | .lc2 _ _ _ _ _ _ _ _ _ => true
  | _ => false
/-- no swapping of stores -/
def noSwap (tg v : Expr) : Bool := match tg, v with
  | .Tuple ts _ _, .Tuple vs _ _ => ts.any (fun t => (vName t).isNone) || vs.all (foldedForSure 8) || decide (3 < ts.length)
  | .Tuple _ _ _, _ => true
  | .Name _ _, _ => true
  | _, _ => false
theorem filt_len {env : Env} {line : Nat} : ∀ {ts : List Expr}, (ts.filterMap fun
    | .Name id pos => if env.kindOf id == some .local && pos.line == line then some id else none
    | _ => none).length ≤ ts.length ∧ (ts.any (fun t => (vName t).isNone) = true → (ts.filterMap fun
    | .Name id pos => if env.kindOf id == some .local && pos.line == line then some id else none
    | _ => none).length < ts.length)
  | [] => ⟨Nat.le_refl _, fun h => nomatch h⟩
  | t :: ts => by
    obtain ⟨h1, h2⟩ := filt_len (env := env) (line := line) (ts := ts)
    rw [List.filterMap_cons]
    split
    · rename_i hn
      refine ⟨by rw [List.length_cons]; omega, fun _ => by rw [List.length_cons]; omega⟩
    · rename_i b hb
      refine ⟨by rw [List.length_cons, List.length_cons]; omega, fun h => ?_⟩
      rw [List.any_cons] at h
      cases t with
      | Name id pos =>
        have := h2 (by simpa [vName] using h)
        rw [List.length_cons, List.length_cons]; omega
      | _ => cases hb
theorem noSwap_ok {tg v : Expr} {env : Env} (h : noSwap tg v = true) : swappedStores [tg] v env = pure none := by
  unfold noSwap at h
  split at h
  · rename_i ts _ _ vs _ _
    unfold swappedStores
    simp only [Bool.or_eq_true, decide_eq_true_eq] at h
    simp only []
    split
    · rfl
    · rename_i c1
      split
      · rfl
      · split
        · rfl
        · rename_i c3
          split
          · rfl
          · rename_i c4
            exfalso
            rcases h with (h | h) | h
            · have := (filt_len (env := env) (line := (ts.head?.map (·.pos.line)).getD 0) (ts := ts)).2 h
              apply c3
              simp only [Bool.or_eq_true, bne_iff_ne]
              exact .inl (Nat.ne_of_lt this)
            · exact c4 h
            · apply c1
              simp only [Bool.or_eq_true, Bool.not_eq_true', Bool.or_eq_false_iff, beq_eq_false_iff_ne]
              exact .inl (.inl ⟨by omega, by omega⟩)
  · rename_i hx
    unfold swappedStores
    cases v <;> first | rfl | exact (hx _ _ _ rfl).elim
  · rfl
  · cases h

def locB (sc : Scope) (x : Str) : Bool := match sc.names.lookup x with
  | some .local => true
  | _ => false
theorem locB_ok {sc : Scope} {x : Str} (h : locB sc x = true) : sc.names.lookup x = some .local := by
  unfold locB at h
  split at h
  · assumption
  · cases h
theorem locB_no {sc : Scope} {x : Str} (h : locB sc x = false) : (sc.names.lookup x == some .local) = false := by
  unfold locB at h
  split at h
  · cases h
  · rename_i hn
    cases e : sc.names.lookup x with
    | none => rfl
    | some q => cases q <;> first | rfl | exact (hn e).elim
def fnB (sc : Scope) : Bool := match sc.kind with
  | .function => true
  | _ => false
theorem fnB_ok {sc : Scope} (h : fnB sc = true) : sc.kind = .function := by
  unfold fnB at h
  split at h
  · assumption
  · cases h
/-- a comprehension that is laid before the name is stored is none of these -/
def swOff (sc : Scope) (tg v : Expr) : Bool := noComp v || match vName tg with
  | some x => !locB sc x
  | none => true
theorem swOff_ok {env : Env} {tg v : Expr} {l : Nat} (h : swOff env.scope tg v = true) : swapsWithSole [tg] v l env = pure false := by
  show swapsWith v (some tg) l env = pure false
  unfold swOff at h
  rcases Bool.or_eq_true_iff.mp h with h0 | h0
  · exact noComp_sw h0 _ _ _
  · split at h0
    · rename_i x hx
      obtain ⟨p, rfl⟩ := vName_ok hx
      have hl : (env.kindOf x == some .local) = false := locB_no (by simpa using h0)
      cases v <;> first
        | rfl
        | (unfold swapsWith; simp only [hl, Bool.and_false, Bool.false_and]; done)
        | (unfold swapsWith; simp only [hl, Bool.and_false, Bool.false_and]; rfl)
    · rename_i hn
      cases tg <;> first
        | (cases hn; done)
        | (cases v <;> rfl)
/-- laid before the name is stored -/
def swOn (sc : Scope) (x : Str) (px : Pos) (s : Scope) (p : Pos) : Bool := fnB sc && locB sc x && (px.line == p.line) && !(s.names.any fun (n, k) => n == x && (k == .local || k == .cell))
def parN : List Expr → List Str
  | .Name x _ :: r => x :: parN r
  | _ :: r => parN r
  | [] => []
def parB (q : Ck) (sc : Scope) (line : Nat) : List Nat → List Expr → Bool
  | [], [] => true
  | i :: is, .Name x p :: r => ixB q.N i x && locB sc x && (p.line == line) && parB q sc line is r
  | _, _ => false
mutual
def chkS (q : Ck) : S → Zs → Stmt → Bool
  | .set t e, z, s => (match vAsg s with
    | some (tg, v, _) => chkG q z t tg && chk q e false z v && swOff z.sc tg v && noSwap tg v && noStar tg
    | none => false)
  | .setc i e, z, s => (match e with
    | .lc1 own t it c el => (match vAsg s with
      | some (.Name y py, v, _) => (match vLc1 v with
        | some (x, tg, i0, ifs, s0, p) => swOn z.sc y py s0 p && ixB q.N i y && blkC q.N z.sc s0 (ownOf q.N own) && noSet i0 && (t.ix.all fun j => own.contains j) && chki q it true z tg i0 &&
            chkG q ⟨relS s0 z.sc, some s0⟩ t tg && chkc q c ⟨relS s0 z.sc, some s0⟩ ifs && chk q el false ⟨relS s0 z.sc, some s0⟩ x
        | none => false)
      | _ => false)
    | .lc2 own t it c own1 t1 it1 c1 el => (match vAsg s with
      | some (.Name y py, v, _) => (match vLc2 v with
        | some (x, (tg, i0, ifs), (tg1, i1, ifs1), s0, p) => swOn z.sc y py s0 p && ixB q.N i y && blkC q.N z.sc s0 (ownOf q.N own) && noSet i0 && noSet i1 && (t.ix.all fun j => own.contains j) && (t1.ix.all fun j => own1.contains j) && (own1.all fun j => (ownOf q.N own).any fun y => y.2 == j) && chki q it true z tg i0 &&
            chkG q ⟨relS s0 z.sc, some s0⟩ t tg && chkc q c ⟨relS s0 z.sc, some s0⟩ ifs && chki q it1 false ⟨relS s0 z.sc, some s0⟩ tg1 i1 && chkG q ⟨relS s0 z.sc, some s0⟩ t1 tg1 && chkc q c1 ⟨relS s0 z.sc, some s0⟩ ifs1 && chk q el false ⟨relS s0 z.sc, some s0⟩ x
        | none => false)
      | _ => false)
    | _ => false)
  | .par i j a b, z, s => (match vAsg s with
    | some (.Tuple ts _ _, .Tuple vs _ _, _) => parB q z.sc ((ts.head?.map (·.pos.line)).getD 0) [i, j] ts && decide (i ≠ j) && fnB z.sc && !(vs.all (foldedForSure 8)) && !(vs.all (constantsAlone 8)) && vs.all noStar && chks q (.c a (.c b .n)) z vs
    | _ => false)
  | .paro i j oa ob a b, z, s => (match vAsg s with
    | some (.Tuple ts _ _, .Tuple vs _ _, _) => parB q z.sc ((ts.head?.map (·.pos.line)).getD 0) [i, j] ts && decide (i ≠ j) && fnB z.sc && !(vs.all (foldedForSure 8)) && !(vs.all (constantsAlone 8)) && vs.all noStar && chks q (.c a (.c b .n)) z vs && (!oa || isFr a) && (!ob || isFr b)
    | _ => false)
  | .par3 i j l a b c, z, s => (match vAsg s with
    | some (.Tuple ts _ _, .Tuple vs _ _, _) => parB q z.sc ((ts.head?.map (·.pos.line)).getD 0) [i, j, l] ts && decide (i ≠ j) && decide (i ≠ l) && decide (j ≠ l) && fnB z.sc && !(vs.all (foldedForSure 8)) && !(vs.all (constantsAlone 8)) && vs.all noStar && chks q (.c a (.c b (.c c .n))) z vs
    | _ => false)
  | .brk, _, s => isBrk s
  | .ct, _, s => isCt s
  | .ex e, z, s => (match vEx s with
    | some v => noComp v && chk q e false z v
    | none => false)
  | .seto i e, z, s => (match vAsg s with
    | some (.Name y py, v, _) => isFr e && ixB q.N i y && storeB z y && swOff z.sc (.Name y py) v && chk q e false z v
    | _ => false)
  | .frz _, _, _ => false
  | .app i e, z, s => (match vEx s with
    | some c => (match vApp c with
      | some (x, v, p1, p2) => ixB q.N i x && visB z.sc x && nmB x && noStar v && (p1.endLine == p2.line) && chk q e false z v
      | none => false)
    | none => false)
  | .ext i e, z, s => (match vEx s with
    | some c => (match vExt c with
      | some (x, v, p1, p2) => isFr e && ixB q.N i x && visB z.sc x && nmB x && noStar v && (p1.endLine == p2.line) && chk q e false z v
      | none => false)
    | none => false)
  | .put i k e, z, s => (match vAsg s with
    | some (tg, v, _) => (match vSub tg with
      | some (x, y) => (match vName x with
        | some n => ixB q.N i n && visB z.sc n && nmB n && chk q e false z v && chk q k false z y
        | none => false)
      | none => false)
    | none => false)
  | .prim p es, z, s => (match p.mt q z s with
    | some l => chkP q es p.fl z l
    | none => false)
  | .ife c a b, z, s => (match vIfS s with
    | some (e, u, w) => chkT q c z e && chkSs q a z u && chkSs q b z w
    | none => false)
  | .whl c b, z, s => (match vWhl s with
    | some (e, w) => chkT q c z e && chkSs q b z w
    | none => false)
  | .frr t it b, z, s => (match vFor s with
    | some (tg, e, w) => chkG q z t tg && noSet e && chki q it false z tg e && chkSs q b z w
    | none => false)
  | .ret e, z, s => (match vRet s with
    | some (some v) => chk q e false z v
    | _ => false)
  | .retn, _, s => (match vRet s with
    | some none => true
    | _ => false)
  | .setf o k e, z, s => (match vAsg s with
    | some (tg, v, _) => (match vSub tg with
      | some (x, y) => chk q o false z x && chk q e false z v && (match vConst y with
        | some c => constB c k
        | none => false)
      | none => false)
    | none => false)
  | .seti o i e, z, s => (match vAsg s with
    | some (tg, v, _) => (match vSub tg with
      | some (x, y) => chk q o false z x && chk q e false z v && (match vConst y with
        | some (.int j) => decide (j = (i : Int))
        | _ => false)
      | none => false)
    | none => false)
  | .pass, _, s => isPass s
  | .never, _, _ => true
def chkSs (q : Ck) : List S → Zs → List Stmt → Bool
  | [], _, ss => ss.isEmpty
  | s :: r, z, ss => (match s with
    | .frz _ => chkSs q r z ss
    | .never => true
    | s' => (match ss with
      | x :: xs => chkS q s z x && chkSs q r z xs
      | [] => false))
end

section
variable {K : Kx} {W0 : Wd}
theorem EndsOk.lw {W W1 : Wd} {fl : Fl} {en' : En} {S' : Sto} {D : Ends} (l : Lw W W1) (h : EndsOk K W0 W fl en' S' D) : EndsOk K W0 W1 fl en' S' D := by
  cases fl with
  | nx => exact fun W' σ' a b c d e => h W' σ' a b (l.trans c) d e
  | brk => exact fun W' σ' a b c d e => h W' σ' a b (l.trans c) d e
  | ct => exact fun W' σ' a b c d e => h W' σ' a b (l.trans c) d e
  | ret v => exact fun W' σ' a b c d e => h W' σ' a b (l.trans c) d e
theorem lw_ad {W : Wd} {p : Addr} {o : HO} : Lw W (W.ad p o) := ⟨fun _ _ h => h, fun _ _ h => h⟩
theorem lw_wr {W : Wd} {p : Addr} {o : HO} : Lw W (W.wr p o) := ⟨fun _ _ h => h, fun _ _ h => h⟩
/-- a name gets a container of its own -/
theorem EnOk.setW {W : Wd} {en : En} {σ : L2.St} (e : EnOk K W0 W en σ) {i : Nat} {p : Addr} {ho : HO} {o : Ow} (hi : i < en.length) (h1 : W.H p = some ho) (h2 : W.F p = none) (h3 : p ∉ W.io) (h4 : W0.H p = none) (r : OwAt K W.F W.io p ho o)
    (hn : ∀ (j : Nat) (x : Ow), en[j]? = some (Sl.own x) → σ[j]? ≠ some (some (V.ref p))) : EnOk K W0 W (en.set i (.own o)) (σ.set i (some (.ref p))) := by
  have hs : i < σ.length := by rw [← e.len]; exact hi
  refine ⟨by rw [List.length_set, List.length_set]; exact e.len, fun j d' h => ?_, fun j ys h => ?_, fun j k x y g1 g2 g3 => ?_⟩
  · by_cases z : i = j
    · subst z; rw [get_set_eq hi] at h; cases h
    · rw [List.getElem?_set_ne z] at h ⊢
      exact e.val j d' h
  · by_cases z : i = j
    · subst z
      rw [get_set_eq hi] at h; cases h
      exact ⟨p, ho, get_set_eq hs, h1, h2, h3, h4, r⟩
    · rw [List.getElem?_set_ne z] at h ⊢
      exact e.own j ys h
  · by_cases z1 : i = j
    · subst z1
      by_cases z2 : i = k
      · exact z2
      · exfalso
        rw [List.getElem?_set_ne z2] at g2
        rw [get_set_eq hs, List.getElem?_set_ne z2] at g3
        exact hn k y g2 g3.symm
    · rw [List.getElem?_set_ne z1] at g1
      by_cases z2 : i = k
      · exfalso
        subst z2
        rw [get_set_eq hs, List.getElem?_set_ne z1] at g3
        exact hn j x g1 g3
      · rw [List.getElem?_set_ne z2] at g2
        rw [List.getElem?_set_ne z1, List.getElem?_set_ne z2] at g3
        exact e.sep j k x y g1 g2 g3
theorem EnOk.setO {W : Wd} {en : En} {σ : L2.St} (e : EnOk K W0 W en σ) {i : Nat} {p : Addr} {vs : List V} {xs : List D} (hi : i < en.length) (h1 : W.H p = some (.lst vs)) (h2 : W.F p = none) (h3 : p ∉ W.io) (h4 : W0.H p = none) (r : W.Rps K vs xs)
    (hz : vs.length ≤ sizeLine)
    (hn : ∀ (j : Nat) (x : Ow), en[j]? = some (Sl.own x) → σ[j]? ≠ some (some (V.ref p))) : EnOk K W0 W (en.set i (.own (.ol xs))) (σ.set i (some (.ref p))) :=
  e.setW hi h1 h2 h3 h4 ⟨vs, rfl, r, hz⟩ hn
/-- a name's own container is written -/
theorem EnOk.wrW {W : Wd} {en : En} {σ : L2.St} (e : EnOk K W0 W en σ) {i : Nat} {x0 o : Ow} {p : Addr} {ho : HO} (hi : en[i]? = some (.own x0)) (hp : σ[i]? = some (some (.ref p))) (h2 : W.F p = none) (h3 : p ∉ W.io) (h4 : W0.H p = none) (r : OwAt K W.F W.io p ho o) :
    EnOk K W0 (W.wr p ho) (en.set i (.own o)) σ := by
  have hl : i < en.length := (List.getElem?_eq_some_iff.mp hi).1
  refine ⟨by rw [List.length_set]; exact e.len, fun j d' h => ?_, fun j ys h => ?_, fun j k x y g1 g2 g3 => ?_⟩
  · by_cases z : i = j
    · subst z; rw [get_set_eq hl] at h; cases h
    · rw [List.getElem?_set_ne z] at h
      exact e.val j d' h
  · by_cases z : i = j
    · subst z
      rw [get_set_eq hl] at h; cases h
      exact ⟨p, ho, hp, upd_same, h2, h3, h4, r⟩
    · rw [List.getElem?_set_ne z] at h
      obtain ⟨a, ws, a1, a2, a3, a4, a5, a6⟩ := e.own j ys h
      refine ⟨a, ws, a1, ?_, a3, a4, a5, a6⟩
      show upd W.H p _ a = _
      have ne : a ≠ p := fun q => by
        subst q
        exact z (e.sep i j x0 _ hi h (by rw [hp, a1]))
      rw [upd_ne ne]; exact a2
  · have off : ∀ (j : Nat) x, (en.set i (.own o))[j]? = some (.own x) → ∃ x', en[j]? = some (.own x') := fun j x h => by
      by_cases z : i = j
      · subst z; exact ⟨x0, hi⟩
      · rw [List.getElem?_set_ne z] at h; exact ⟨x, h⟩
    obtain ⟨x', b1⟩ := off j x g1
    obtain ⟨y', b2⟩ := off k y g2
    exact e.sep j k x' y' b1 b2 g3
theorem EnOk.wrO {W : Wd} {en : En} {σ : L2.St} (e : EnOk K W0 W en σ) {i : Nat} {x0 : Ow} {p : Addr} {vs : List V} {xs : List D} (hi : en[i]? = some (.own x0)) (hp : σ[i]? = some (some (.ref p))) (h2 : W.F p = none) (h3 : p ∉ W.io) (h4 : W0.H p = none) (r : W.Rps K vs xs) (hz : vs.length ≤ sizeLine) :
    EnOk K W0 (W.wr p (.lst vs)) (en.set i (.own (.ol xs))) σ := e.wrW hi hp h2 h3 h4 ⟨vs, rfl, r, hz⟩
/-- .. is frozen: what lies there may be told in another way -/
def Wd.fw (W : Wd) (p : Addr) (o : HO) : Wd := { W with F := upd W.F p o, H := upd W.H p o }
theorem ok_fw {W : Wd} (ok : W.Ok K) {p : Addr} {o : HO} (hf : W.F p = none) (hi : p ∉ W.io) : (W.fw p o).Ok K := by
  have ff : ∀ a u, W.F a = some u → upd W.F p o a = some u := fun a u e => by rw [upd_ne (ne_of_none e hf)]; exact e
  refine ⟨fun a u e => ?_, fun n fs e => ?_, ok.le, ok.nd⟩
  · have e' : upd W.F p o a = some u := e
    show upd W.H p o a = some u
    by_cases z : a = p
    · subst z; rw [upd_same] at e' ⊢; exact e'
    · rw [upd_ne z] at e' ⊢; exact ok.ex a u e'
  · obtain ⟨a, ho, h1, h2, h3, h4⟩ := ok.ob n fs e
    have ne : a ≠ p := fun z => hi (by rw [← z]; exact List.mem_of_getElem? h1)
    refine ⟨a, ho, h1, ?_, ?_, h4.mono ff (fun _ _ h => h)⟩
    · show upd W.H p o a = _
      rw [upd_ne ne]; exact h2
    · show upd W.F p o a = none
      rw [upd_ne ne]; exact h3
theorem ff_fw {W : Wd} {p : Addr} {o : HO} (hf : W.F p = none) : ∀ a u, W.F a = some u → (W.fw p o).F a = some u := fun a u e => by
  show upd W.F p o a = some u
  rw [upd_ne (ne_of_none e hf)]; exact e
theorem le_fw {W1 W : Wd} (l : Le W1 W) {p : Addr} {o : HO} (h : W1.H p = none) (hf : W.F p = none) : Le W1 (W.fw p o) := by
  refine ⟨fun a u e => ff_fw hf a u (l.ff a u e), fun a u e n => ?_, fun a u e n => ?_, fun a e => ?_, l.io⟩
  · show upd W.H p o a = some u
    rw [upd_ne (ne_of_none e h)]; exact l.hh a u e n
  · show upd W.F p o a = none
    rw [upd_ne (ne_of_none e h)]; exact l.nf a u e n
  · have e' : upd W.H p o a = none := e
    by_cases z : a = p
    · rw [z]; exact h
    · rw [upd_ne z] at e'; exact l.al a e'
theorem EnOk.fzW {W : Wd} {en : En} {σ : L2.St} (e : EnOk K W0 W en σ) {i : Nat} {x0 : Ow} {p : Addr} {o : HO} {d : D} (hi : en[i]? = some (.own x0)) (a1 : σ[i]? = some (some (.ref p))) (a3 : W.F p = none) (r : (W.fw p o).Rp K (.ref p) d) :
    EnOk K W0 (W.fw p o) (en.set i (.val d)) σ := by
  have hl : i < en.length := (List.getElem?_eq_some_iff.mp hi).1
  have lw : Lw W (W.fw p o) := ⟨ff_fw a3, fun _ _ h => h⟩
  refine ⟨by rw [List.length_set]; exact e.len, fun j d' h => ?_, fun j ys h => ?_, fun j k x y g1 g2 g3 => ?_⟩
  · by_cases z : i = j
    · subst z
      rw [get_set_eq hl] at h; cases h
      exact ⟨_, a1, r⟩
    · rw [List.getElem?_set_ne z] at h
      obtain ⟨v, h1, h2⟩ := e.val j d' h
      exact ⟨v, h1, lw.rp h2⟩
  · by_cases z : i = j
    · subst z; rw [get_set_eq hl] at h; cases h
    · rw [List.getElem?_set_ne z] at h
      obtain ⟨a, ws, b1, b2, b3, b4, b5, b6⟩ := e.own j ys h
      have ne : a ≠ p := fun q => by
        subst q
        exact z (e.sep i j _ _ hi h (by rw [a1, b1]))
      refine ⟨a, ws, b1, ?_, ?_, b4, b5, b6.mono lw.ff fun _ _ h => h⟩
      · show upd W.H p _ a = _
        rw [upd_ne ne]; exact b2
      · show upd W.F p _ a = none
        rw [upd_ne ne]; exact b3
  · have z1 : i ≠ j := fun z => by subst z; rw [get_set_eq hl] at g1; cases g1
    have z2 : i ≠ k := fun z => by subst z; rw [get_set_eq hl] at g2; cases g2
    rw [List.getElem?_set_ne z1] at g1
    rw [List.getElem?_set_ne z2] at g2
    exact e.sep j k x y g1 g2 g3
end
end Cv

/-! Cv12: statements: the look tells the truth. -/
namespace Cv
open PySem PySem.Spec PyProof.Rows L2
section
variable {g : Cf} {q : Ck} {z : Zs} {X : Cx} {k : Nat} {W0 : Wd}
/-- no exception leaves -/
abbrev Quiet (X : Cx) : Prop := PassesOwn (model X.prog X.w) X.A X.env X.xe
def JS (g : Cf) (q : Ck) (k : Nat) (s : S) : Prop := ∀ (z : Zs) (X : Cx) (W0 : Wd) (x : Stmt), Gd q z X → Fs g q k X → Quiet X → chkS q s z x = true → PS X x (tS X.kx W0 (st g s))
def JSs (g : Cf) (q : Ck) (k : Nat) (s : List S) : Prop := ∀ (z : Zs) (X : Cx) (W0 : Wd) (x : List Stmt), Gd q z X → Fs g q k X → Quiet X → chkSs q s z x = true → PSs X x (tS X.kx W0 (sts g s))
theorem nx_inv {fl fl' : Fl} {en en' : En} {S S' : Sto} (h : M.ret (fl, en) S = some ((fl', en'), S')) : fl' = fl ∧ en' = en ∧ S' = S := by
  obtain ⟨h1, h2⟩ := ret_inv h
  cases h1
  exact ⟨rfl, rfl, h2⟩
theorem ifp_no {α : Type} {c : Prop} [Decidable c] {m : M α} {a : α} {S S' : Sto} (h : (if c then m else M.no) S = some (a, S')) : c ∧ m S = some (a, S') := by
  by_cases hc : c
  · rw [if_pos hc] at h; exact ⟨hc, h⟩
  · rw [if_neg hc] at h; exact (no_inv (S := S) h).elim
theorem s_set {t : Tg} {e : E} : JS g q k (.set t e) := by
  intro z X W0 x G F hq h
  unfold chkS at h
  split at h
  · rename_i tg v p hv
    cases vAsg_ok hv
    simp only [Bool.and_eq_true] at h
    obtain ⟨⟨⟨⟨h1, h2⟩, h3⟩, h4⟩, h5⟩ := h
    refine PS.weaken (ps_asg (all_E e z X v G F h2) (pg_tg G t tg h1) (swOff_ok (by rw [G.sc]; exact h3)) (noSwap_ok h4) (by rw [asg_each h5]; rfl)) ?_
    rintro D σ H ⟨W, en, fl, en', S', rfl, ok, le, eo, hm, he⟩
    unfold st at hm
    obtain ⟨d, S1, e1, e2⟩ := bnd_inv hm
    obtain ⟨en1, S2, e3, e4⟩ := bnd_inv e2
    obtain ⟨e5, rfl⟩ := opt_inv e3
    obtain ⟨rfl, rfl, rfl⟩ := nx_inv e4
    exact ⟨W0, W, en, rfl, ok, eo, d, _, e1, fun W1 l1 ok1 es1 v r => ⟨W0, W1, en, d, _, rfl, ok1, eo.le l1, r, e5, fun σ2 eo2 _ => he W1 σ2 ok1 (le.trans l1) l1.lw eo2 es1⟩⟩
  · cases h
theorem s_setc {i : Nat} {e : E} : JS g q k (.setc i e) := by
  intro z X W0 x G F hq h
  unfold chkS at h
  split at h
  · rename_i own t it c el
    split at h
    · rename_i y py v p hv
      cases vAsg_ok hv
      split at h
      · rename_i x tg i0 ifs s0 p0 hv2
        cases vLc1_ok hv2
        simp only [Bool.and_eq_true] at h
        obtain ⟨⟨⟨⟨⟨⟨⟨⟨h0, hy⟩, h1⟩, h2⟩, h3⟩, h4⟩, h5⟩, h6⟩, h7⟩ := h
        unfold swOn at h0
        simp only [Bool.and_eq_true, Bool.not_eq_true'] at h0
        obtain ⟨⟨⟨s1, s2⟩, s3⟩, s4⟩ := h0
        have hloc : X.env.scope.names.lookup y = some .local := by rw [G.sc]; exact locB_ok s2
        have blk := blkOk_by (N := X.N) (sc := X.env.scope) (scope := s0) (own := ownOf q.N own) (by rw [G.N, G.sc]; exact h1)
        have rule := ps_setLc (spos := p) (i := i) (y := y) (py := py) (pos := p0) (elt := x) (ifs := ifs) (te := tE X.kx g el) (tt := fun σ H Q => At X.kx σ H fun W en => Yl X.kx W (evc g c en) (fun _ v d => v = d) Q) (g := tG X.kx t) (wi := tIc X.kx g it) G.calm G.nd
          (by rw [G.N]; exact of_decide_eq_true hy) hloc (sw_true (by rw [G.sc]; exact fnB_ok s1) hloc s3 s4) (all_K it z X tg i0 G F h4) blk (fun s0 H0 C cl fp => pg_tg (G.blk s0 H0 _ C cl fp) t tg h5)
          (fun s0 H0 C cl fp => all_C c _ _ ifs (G.blk s0 H0 _ C cl fp) (F.blk s0 H0 _ _ fp) h6) (fun s0 H0 C cl fp => all_E el _ _ x (G.blk s0 H0 _ C cl fp) (F.blk s0 H0 _ _ fp) h7) (noSet_ok h2 X.env)
        rw [ownOf_ix] at rule
        refine PS.weaken rule ?_
        rintro D σ H ⟨W, en, fl, en', S', rfl, ok, le, eo, hm, he⟩
        unfold st at hm
        obtain ⟨d, S1, e1, e2⟩ := bnd_inv hm
        obtain ⟨en1, S2, e3, e4⟩ := bnd_inv e2
        obtain ⟨e5, rfl⟩ := opt_inv e3
        obtain ⟨rfl, rfl, rfl⟩ := nx_inv e4
        obtain ⟨g1, g2⟩ := ifp_some (show (if i < en.length then some (setV en i d) else none) = some _ from e5)
        subst g2
        refine lc_go h3 σ _ _ ⟨W0, W, en, rfl, ok, eo, d, _, e1, fun W1 l1 ok1 es1 v r => ?_⟩
        exact he W1 _ ok1 (le.trans l1) l1.lw ((eo.le l1).set g1 r) es1
      · cases h
    · cases h
  · rename_i own t it c own1 t1 it1 c1 el
    split at h
    · rename_i y py v p hv
      cases vAsg_ok hv
      split at h
      · rename_i x tg i0 ifs tg1 i1 ifs1 s0 p0 hv2
        cases vLc2_ok hv2
        simp only [Bool.and_eq_true] at h
        obtain ⟨⟨⟨⟨⟨⟨⟨⟨⟨⟨⟨⟨⟨⟨h0, hy⟩, h1⟩, h2⟩, h2'⟩, h3⟩, h3'⟩, hv1⟩, h4⟩, h5⟩, h6⟩, h8⟩, h9⟩, h10⟩, h7⟩ := h
        unfold swOn at h0
        simp only [Bool.and_eq_true, Bool.not_eq_true'] at h0
        obtain ⟨⟨⟨s1, s2⟩, s3⟩, s4⟩ := h0
        have hloc : X.env.scope.names.lookup y = some .local := by rw [G.sc]; exact locB_ok s2
        have blk := blkOk_by (N := X.N) (sc := X.env.scope) (scope := s0) (own := ownOf q.N own) (by rw [G.N, G.sc]; exact h1)
        have hown : ∀ i ∈ own1, i ∈ (ownOf q.N own).map (·.2) := fun i hi => by
          obtain ⟨y, hy, e⟩ := List.any_eq_true.mp (List.all_eq_true.mp hv1 i hi)
          exact List.mem_map.mpr ⟨y, hy, by simpa using e⟩
        have rule := ps_setLc2 (spos := p) (i := i) (y := y) (py := py) (pos := p0) (elt := x) (ifs := ifs) (ifs1 := ifs1) (vs1 := own1) (te := tE X.kx g el) (tt := fun σ H Q => At X.kx σ H fun W en => Yl X.kx W (evc g c en) (fun _ v d => v = d) Q) (tt1 := fun σ H Q => At X.kx σ H fun W en => Yl X.kx W (evc g c1 en) (fun _ v d => v = d) Q)
          (g := tG X.kx t) (g1 := tG X.kx t1) (wi := tIc X.kx g it) (wi1 := tI X.kx g it1) G.calm G.nd
          (by rw [G.N]; exact of_decide_eq_true hy) hloc (sw_true (by rw [G.sc]; exact fnB_ok s1) hloc s3 s4) (all_K it z X tg i0 G F h4) blk hown (fun s0 H0 C cl fp => pg_tg (G.blk s0 H0 _ C cl fp) t tg h5)
          (fun s0 H0 C cl fp => all_C c _ _ ifs (G.blk s0 H0 _ C cl fp) (F.blk s0 H0 _ _ fp) h6) (fun s0 H0 C cl fp => all_I it1 _ _ tg1 i1 (G.blk s0 H0 _ C cl fp) (F.blk s0 H0 _ _ fp) h8) (fun s0 H0 C cl fp => pg_tg (G.blk s0 H0 _ C cl fp) t1 tg1 h9)
          (fun s0 H0 C cl fp => all_C c1 _ _ ifs1 (G.blk s0 H0 _ C cl fp) (F.blk s0 H0 _ _ fp) h10) (fun s0 H0 C cl fp => all_E el _ _ x (G.blk s0 H0 _ C cl fp) (F.blk s0 H0 _ _ fp) h7) (noSet_ok h2 X.env) (fun env => noSet_ok h2' env)
        rw [ownOf_ix] at rule
        refine PS.weaken rule ?_
        rintro D σ H ⟨W, en, fl, en', S', rfl, ok, le, eo, hm, he⟩
        unfold st at hm
        obtain ⟨d, S1, e1, e2⟩ := bnd_inv hm
        obtain ⟨en1, S2, e3, e4⟩ := bnd_inv e2
        obtain ⟨e5, rfl⟩ := opt_inv e3
        obtain ⟨rfl, rfl, rfl⟩ := nx_inv e4
        obtain ⟨g1, g2⟩ := ifp_some (show (if i < en.length then some (setV en i d) else none) = some _ from e5)
        subst g2
        refine lc2_goF h3 h3' σ _ _ (tF_of lc2_lst ⟨W0, W, en, rfl, ok, eo, d, _, e1, fun W1 l1 ok1 es1 v r => ?_⟩)
        exact he W1 _ ok1 (le.trans l1) l1.lw ((eo.le l1).set g1 r) es1
      · cases h
    · cases h
  · cases h
theorem parB1 {sc : Scope} {line i : Nat} {is : List Nat} {ts : List Expr} (h : parB q sc line (i :: is) ts = true) : ∃ x px r, ts = .Name x px :: r ∧ q.N[i]? = some x ∧ sc.names.lookup x = some .local ∧ (px.line == line) = true ∧ parB q sc line is r = true := by
  cases ts with
  | nil => cases h
  | cons e r =>
    cases e <;> first
      | (cases h; done)
      | (rename_i x px
         have h := Bool.and_eq_true_iff.mp (show (ixB q.N i x && locB sc x && (px.line == line) && parB q sc line is r) = true from h)
         have h1 := Bool.and_eq_true_iff.mp h.1
         have h2 := Bool.and_eq_true_iff.mp h1.1
         exact ⟨x, px, r, rfl, of_decide_eq_true h2.1, locB_ok h2.2, h1.2, h.2⟩)
theorem parB0 {sc : Scope} {line : Nat} {ts : List Expr} (h : parB q sc line [] ts = true) : ts = [] := by
  cases ts with
  | nil => rfl
  | cons e r => cases e <;> cases h
theorem parB2 {sc : Scope} {line i j : Nat} {ts : List Expr} (h : parB q sc line [i, j] ts = true) : ∃ x px y py, ts = [.Name x px, .Name y py] ∧ q.N[i]? = some x ∧ q.N[j]? = some y ∧ sc.names.lookup x = some .local ∧ sc.names.lookup y = some .local ∧ (px.line == line) = true ∧ (py.line == line) = true := by
  obtain ⟨x, px, r, rfl, a1, a2, a3, h⟩ := parB1 h
  obtain ⟨y, py, r, rfl, b1, b2, b3, h⟩ := parB1 h
  cases parB0 h
  exact ⟨x, px, y, py, rfl, a1, b1, a2, b2, a3, b3⟩
theorem parB3 {sc : Scope} {line i j l : Nat} {ts : List Expr} (h : parB q sc line [i, j, l] ts = true) : ∃ x px y py w pw, ts = [.Name x px, .Name y py, .Name w pw] ∧ q.N[i]? = some x ∧ q.N[j]? = some y ∧ q.N[l]? = some w ∧
    sc.names.lookup x = some .local ∧ sc.names.lookup y = some .local ∧ sc.names.lookup w = some .local ∧ (px.line == line) = true ∧ (py.line == line) = true ∧ (pw.line == line) = true := by
  obtain ⟨x, px, r, rfl, a1, a2, a3, h⟩ := parB1 h
  obtain ⟨y, py, r, rfl, b1, b2, b3, h⟩ := parB1 h
  obtain ⟨w, pw, r, rfl, c1, c2, c3, h⟩ := parB1 h
  cases parB0 h
  exact ⟨x, px, y, py, w, pw, rfl, a1, b1, c1, a2, b2, c2, a3, b3, c3⟩
theorem nd_ne {N : List Str} (nd : N.Nodup) {i j : Nat} {x y : Str} (hi : N[i]? = some x) (hj : N[j]? = some y) (h : i ≠ j) : x ≠ y := by
  rintro rfl
  obtain ⟨l1, g1⟩ := List.getElem?_eq_some_iff.mp hi
  obtain ⟨l2, g2⟩ := List.getElem?_eq_some_iff.mp hj
  exact h ((List.getElem_inj nd).mp (g1.trans g2.symm))
theorem blockFn {env : Env} (h : env.scope.kind = .function) : env.blockKind = .function := by
  unfold Env.blockKind
  rw [h]; rfl
theorem fm2 {F : Expr → Option Str} {e1 e2 : Expr} {x y : Str} (h1 : F e1 = some x) (h2 : F e2 = some y) : [e1, e2].filterMap F = [x, y] := by
  rw [List.filterMap_cons_some h1, List.filterMap_cons_some h2, List.filterMap_nil]
theorem fm3 {F : Expr → Option Str} {e1 e2 e3 : Expr} {x y w : Str} (h1 : F e1 = some x) (h2 : F e2 = some y) (h3 : F e3 = some w) : [e1, e2, e3].filterMap F = [x, y, w] := by
  rw [List.filterMap_cons_some h1, fm2 h2 h3]
theorem dd2 {x y : Str} (h : x ≠ y) : [x, y].eraseDups = [x, y] := by
  have : (y == x) = false := by simpa using h.symm
  simp [List.eraseDups_cons, List.filter, this]
theorem dd3 {x y w : Str} (h : x ≠ y) (h2 : x ≠ w) (h3 : y ≠ w) : [x, y, w].eraseDups = [x, y, w] := by
  have h4 : (y == x) = false := by simpa using h.symm
  have h5 : (w == x) = false := by simpa using h2.symm
  have h6 : (w == y) = false := by simpa using h3.symm
  simp [List.eraseDups_cons, List.filter, h4, h5, h6]
theorem par_sw2 {env : Env} {x y : Str} {px py pt pt2 : Pos} {kt k2 : Nat} {a b : Expr} (hk : env.scope.kind = .function) (hx : env.scope.names.lookup x = some .local) (hy : env.scope.names.lookup y = some .local) (hl : (py.line == px.line) = true)
    (hxy : x ≠ y) (hs : [a, b].all noStar = true) (h1 : [a, b].all (foldedForSure 8) = false) (h2 : [a, b].all (constantsAlone 8) = false) :
    swappedStores [.Tuple [.Name x px, .Name y py] kt pt] (.Tuple [a, b] k2 pt2) env = pure (some [x, y]) := by
  have kx : env.kindOf x = some .local := hx
  have ky : env.kindOf y = some .local := hy
  unfold swappedStores
  simp only []
  rw [fm2 (x := x) (y := y) (by simp [kx]; rfl) (by simp only [ky, List.head?_cons, Option.map_some, Option.getD_some, Expr.pos, hl]; rfl), dd2 hxy]
  refine (if_neg ?_).trans ((if_neg ?_).trans ((if_neg ?_).trans ((if_neg ?_).trans (if_neg ?_))))
  · rw [blockFn hk]; simp
  · intro h
    obtain ⟨e, he, h⟩ := List.any_eq_true.mp h
    have := List.all_eq_true.mp hs e he
    cases e <;> first | (cases h; done) | cases this
  · simp
  · rw [h1]; exact Bool.false_ne_true
  · rw [h2]; exact Bool.false_ne_true
theorem par_sw3 {env : Env} {x y w : Str} {px py pw pt pt2 : Pos} {kt k2 : Nat} {a b c : Expr} (hk : env.scope.kind = .function) (hx : env.scope.names.lookup x = some .local) (hy : env.scope.names.lookup y = some .local) (hw : env.scope.names.lookup w = some .local)
    (hl : (py.line == px.line) = true) (hl2 : (pw.line == px.line) = true) (hxy : x ≠ y) (hxw : x ≠ w) (hyw : y ≠ w) (hs : [a, b, c].all noStar = true) (h1 : [a, b, c].all (foldedForSure 8) = false) (h2 : [a, b, c].all (constantsAlone 8) = false) :
    swappedStores [.Tuple [.Name x px, .Name y py, .Name w pw] kt pt] (.Tuple [a, b, c] k2 pt2) env = pure (some [x, y, w]) := by
  have kx : env.kindOf x = some .local := hx
  have ky : env.kindOf y = some .local := hy
  have kw : env.kindOf w = some .local := hw
  unfold swappedStores
  simp only []
  rw [fm3 (x := x) (y := y) (w := w) (by simp [kx]; rfl) (by simp only [ky, List.head?_cons, Option.map_some, Option.getD_some, Expr.pos, hl]; rfl) (by simp only [kw, List.head?_cons, Option.map_some, Option.getD_some, Expr.pos, hl2]; rfl), dd3 hxy hxw hyw]
  refine (if_neg ?_).trans ((if_neg ?_).trans ((if_neg ?_).trans ((if_neg ?_).trans (if_neg ?_))))
  · rw [blockFn hk]; simp
  · intro h
    obtain ⟨e, he, h⟩ := List.any_eq_true.mp h
    have := List.all_eq_true.mp hs e he
    cases e <;> first | (cases h; done) | cases this
  · simp
  · rw [h1]; exact Bool.false_ne_true
  · rw [h2]; exact Bool.false_ne_true
theorem evs2 {a b : E} {en : En} {x y : D} {S S1 S2 : Sto} (e1 : ev g a en S = some (x, S1)) (e2 : ev g b en S1 = some (y, S2)) : evs g (.c a (.c b .n)) en S = some ([x, y], S2) := by
  simp only [evs, M.bnd, e1, e2, M.ret]
theorem evs3 {a b c : E} {en : En} {x y w : D} {S S1 S2 S3 : Sto} (e1 : ev g a en S = some (x, S1)) (e2 : ev g b en S1 = some (y, S2)) (e3 : ev g c en S2 = some (w, S3)) : evs g (.c a (.c b (.c c .n))) en S = some ([x, y, w], S3) := by
  simp only [evs, M.bnd, e1, e2, e3, M.ret]
theorem s_par {i j : Nat} {a b : E} : JS g q k (.par i j a b) := by
  intro z X W0 x G F hq h
  unfold chkS at h
  split at h
  · rename_i ts kt pt vs k2 pt2 p hv
    cases vAsg_ok hv
    simp only [Bool.and_eq_true, Bool.not_eq_true', decide_eq_true_eq] at h
    obtain ⟨⟨⟨⟨⟨⟨h1, h2⟩, h3⟩, h4⟩, h5⟩, h6⟩, h7⟩ := h
    obtain ⟨x, px, y, py, rfl, a1, a2, a3, a4, a5, a6⟩ := parB2 h1
    have hl := chks_len h7
    match vs, hl with
    | [v, w], _ =>
      have nx : X.N[i]? = some x := by rw [G.N]; exact a1
      have ny : X.N[j]? = some y := by rw [G.N]; exact a2
      have lx : X.env.scope.names.lookup x = some .local := by rw [G.sc]; exact a3
      have ly : X.env.scope.names.lookup y = some .local := by rw [G.sc]; exact a4
      have hpa := all_A (.c a (.c b .n)) z X [v, w] G F h6 h7
      refine PS.weaken (ps_par G.calm G.nd nx ny h2 lx ly hpa (par_sw2 (by rw [G.sc]; exact fnB_ok h3) lx ly a6 (nd_ne G.nd nx ny h2) h6 h4 h5)) ?_
      rintro D σ H ⟨W, en, fl, en', S', rfl, ok, le, eo, hm, he⟩
      unfold st at hm
      obtain ⟨d, S1, e1, hm⟩ := bnd_inv hm
      obtain ⟨d2, S2, e2, hm⟩ := bnd_inv hm
      obtain ⟨e3, hm⟩ := if_no hm
      obtain ⟨rfl, rfl, rfl⟩ := nx_inv hm
      have e3 := Bool.and_eq_true_iff.mp e3
      refine ⟨W0, W, en, rfl, ok, eo, _, _, evs2 e1 e2, fun W1 l1 ok1 es1 us r => ?_⟩
      obtain ⟨v1, _, rfl, r1, r⟩ := reps_cons r
      obtain ⟨v2, _, rfl, r2, r⟩ := reps_cons r
      cases reps_nil r
      refine ⟨v1, v2, rfl, he W1 _ ok1 (le.trans l1) l1.lw (((eo.le l1).set (of_decide_eq_true e3.1) r1).set ?_ r2) es1⟩
      unfold setV
      rw [List.length_set]
      exact of_decide_eq_true e3.2
  · cases h
theorem s_par3 {i j l : Nat} {a b c : E} : JS g q k (.par3 i j l a b c) := by
  intro z X W0 x G F hq h
  unfold chkS at h
  split at h
  · rename_i ts kt pt vs k2 pt2 p hv
    cases vAsg_ok hv
    simp only [Bool.and_eq_true, Bool.not_eq_true', decide_eq_true_eq] at h
    obtain ⟨⟨⟨⟨⟨⟨⟨⟨h1, h2⟩, h8⟩, h9⟩, h3⟩, h4⟩, h5⟩, h6⟩, h7⟩ := h
    obtain ⟨x, px, y, py, w, pw, rfl, a1, a2, c1, a3, a4, c2, a5, a6, c3⟩ := parB3 h1
    have hl := chks_len h7
    match vs, hl with
    | [v, u, t], _ =>
      have nx : X.N[i]? = some x := by rw [G.N]; exact a1
      have ny : X.N[j]? = some y := by rw [G.N]; exact a2
      have nw : X.N[l]? = some w := by rw [G.N]; exact c1
      have lx : X.env.scope.names.lookup x = some .local := by rw [G.sc]; exact a3
      have ly : X.env.scope.names.lookup y = some .local := by rw [G.sc]; exact a4
      have lw : X.env.scope.names.lookup w = some .local := by rw [G.sc]; exact c2
      have hpa := all_A (.c a (.c b (.c c .n))) z X [v, u, t] G F h6 h7
      refine PS.weaken (ps_par3 G.calm G.nd nx ny nw h2 h8 h9 lx ly lw hpa (par_sw3 (by rw [G.sc]; exact fnB_ok h3) lx ly lw a6 c3 (nd_ne G.nd nx ny h2) (nd_ne G.nd nx nw h8) (nd_ne G.nd ny nw h9) h6 h4 h5)) ?_
      rintro D σ H ⟨W, en, fl, en', S', rfl, ok, le, eo, hm, he⟩
      unfold st at hm
      obtain ⟨d, S1, e1, hm⟩ := bnd_inv hm
      obtain ⟨d2, S2, e2, hm⟩ := bnd_inv hm
      obtain ⟨d3, S3, e4, hm⟩ := bnd_inv hm
      obtain ⟨e3, hm⟩ := if_no hm
      obtain ⟨rfl, rfl, rfl⟩ := nx_inv hm
      simp only [Bool.and_eq_true, decide_eq_true_eq] at e3
      refine ⟨W0, W, en, rfl, ok, eo, _, _, evs3 e1 e2 e4, fun W1 l1 ok1 es1 us r => ?_⟩
      obtain ⟨v1, _, rfl, r1, r⟩ := reps_cons r
      obtain ⟨v2, _, rfl, r2, r⟩ := reps_cons r
      obtain ⟨v3, _, rfl, r3, r⟩ := reps_cons r
      cases reps_nil r
      refine ⟨v1, v2, v3, rfl, he W1 _ ok1 (le.trans l1) l1.lw ((((eo.le l1).set e3.1.1 r1).set ?_ r2).set ?_ r3) es1⟩
      · unfold setV
        rw [List.length_set]
        exact e3.1.2
      · unfold setV
        rw [List.length_set, List.length_set]
        exact e3.2
  · cases h
theorem s_brk : JS g q k .brk := by
  intro z X W0 x G F hq h
  obtain ⟨p, rfl⟩ := isBrk_ok h
  refine PS.weaken ps_break ?_
  rintro D σ H ⟨W, en, fl, en', S', rfl, ok, le, eo, hm, he⟩
  obtain ⟨h1, h2⟩ := ret_inv (show M.ret (Fl.brk, en) W.S = some ((fl, en'), S') from hm)
  cases h1
  exact he W σ ok le (Lw.refl _) eo h2.symm
theorem s_ct : JS g q k .ct := by
  intro z X W0 x G F hq h
  obtain ⟨p, rfl⟩ := isCt_ok h
  refine PS.weaken ps_continue ?_
  rintro D σ H ⟨W, en, fl, en', S', rfl, ok, le, eo, hm, he⟩
  obtain ⟨h1, h2⟩ := ret_inv (show M.ret (Fl.ct, en) W.S = some ((fl, en'), S') from hm)
  cases h1
  exact he W σ ok le (Lw.refl _) eo h2.symm
theorem s_pass : JS g q k .pass := by
  intro z X W0 x G F hq h
  have fin : ∀ D σ H, tS X.kx W0 (st g .pass) D σ H → tNext D σ H := by
    rintro D σ H ⟨W, en, fl, en', S', rfl, ok, le, eo, hm, he⟩
    obtain ⟨h1, h2⟩ := ret_inv (show M.ret (Fl.nx, en) W.S = some ((fl, en'), S') from hm)
    cases h1
    exact he W σ ok le (Lw.refl _) eo h2.symm
  have h : isPass x = true := h
  unfold isPass at h
  split at h
  · exact PS.weaken ps_pass fin
  · exact PS.weaken ps_doc fin
  · cases h
theorem s_never : JS g q k .never := by
  intro z X W0 x G F hq h
  refine PS.weaken ps_never ?_
  rintro D σ H ⟨W, en, fl, en', S', rfl, ok, le, eo, hm, he⟩
  exact (no_inv (S := W.S) hm).elim
theorem s_ex {e : E} : JS g q k (.ex e) := by
  intro z X W0 x G F hq h
  unfold chkS at h
  split at h
  · rename_i v hv
    obtain ⟨p, rfl⟩ := vEx_ok hv
    rw [Bool.and_eq_true] at h
    refine PS.weaken (ps_expr (all_E e z X v G F h.2) (noComp_sw h.1 _ _ _)) ?_
    rintro D σ H ⟨W, en, fl, en', S', rfl, ok, le, eo, hm, he⟩
    unfold st at hm
    obtain ⟨d, S1, e1, e2⟩ := bnd_inv hm
    obtain ⟨rfl, rfl, rfl⟩ := nx_inv e2
    exact ⟨W0, W, _, rfl, ok, eo, d, _, e1, fun W1 l1 ok1 es1 v r => he W1 σ ok1 (le.trans l1) l1.lw (eo.le l1) es1⟩
  · cases h
theorem s_ret {e : E} : JS g q k (.ret e) := by
  intro z X W0 x G F hq h
  unfold chkS at h
  split at h
  · rename_i v hv
    obtain ⟨p, rfl⟩ := vRet_ok hv
    refine PS.weaken (ps_ret (all_E e z X v G F h)) ?_
    rintro D σ H ⟨W, en, fl, en', S', rfl, ok, le, eo, hm, he⟩
    unfold st at hm
    obtain ⟨d, S1, e1, e2⟩ := bnd_inv hm
    obtain ⟨rfl, rfl, rfl⟩ := nx_inv e2
    exact ⟨W0, W, _, rfl, ok, eo, d, _, e1, fun W1 l1 ok1 es1 v r => he W1 v ok1 (le.trans l1) l1.lw es1 r⟩
  · cases h
theorem s_retn : JS g q k .retn := by
  intro z X W0 x G F hq h
  unfold chkS at h
  split at h
  · rename_i hv
    obtain ⟨p, rfl⟩ := vRet_ok hv
    refine PS.weaken ps_retN ?_
    rintro D σ H ⟨W, en, fl, en', S', rfl, ok, le, eo, hm, he⟩
    unfold st at hm
    obtain ⟨rfl, rfl, rfl⟩ := nx_inv hm
    exact he W .non ok le (Lw.refl _) rfl .non
  · cases h
theorem fresh_F {c : E} (h : isFr c = true) : JF g q k c := by
  match c, h with
  | .lst es, _ => exact f_lst (all_A es)
  | .bin .add a b, _ => exact f_add (all_R a) (all_R b)
  | .b1 .list a, _ => exact f_list (all_R a)
  | .lc1 _ _ it c e, _ => exact f_lc1 (all_K it) (all_C c) (all_E e)
  | .lc2 _ _ it c _ _ it1 c1 e, _ => exact f_lc2 (all_K it) (all_C c) (all_I it1) (all_C c1) (all_E e)
/-- what lies behind a slot's thing -/
def SlR (K : Kx) (W W1 : Wd) (v : V) (d : Cv.D) : Bool → Prop
  | false => W1.Rp K v d
  | true => ∃ p vs xs, v = .ref p ∧ d = .lst xs ∧ W1.H p = some (.lst vs) ∧ W1.F p = none ∧ p ∉ W1.io ∧ W.H p = none ∧ W1.Rps K vs xs ∧ vs.length ≤ sizeLine
def tX (K : Kx) (g : Cf) (o : Bool) (c : E) : TE := fun σ H Q => ∃ W0 W en d S', Wd.H W = H ∧ W.Ok K ∧ EnOk K W0 W en σ ∧ ev g c en W.S = some (d, S') ∧ (slL o d).isSome = true ∧
  ∀ W1, Le W W1 → W1.Ok K → W1.S = S' → ∀ v, SlR K W W1 v d o → Q v W1.H
theorem px_X {o : Bool} {c : E} {z : Zs} {X : Cx} {x : Expr} (G : Gd q z X) (F : Fs g q k X) (hf : (!o || isFr c) = true) (h : chk q c false z x = true) : PE X x (tX X.kx g o c) := by
  cases o with
  | false =>
    refine PE.weaken (all_E c z X x G F h) ?_
    rintro σ H Q ⟨W0, W, en, d, S', rfl, ok, eo, e, _, kk⟩
    exact ⟨W0, W, en, rfl, ok, eo, d, S', e, fun W1 l1 ok1 es1 v r => kk W1 l1 ok1 es1 v r⟩
  | true =>
    refine PE.weaken (fresh_F hf z X x G F h) ?_
    rintro σ H Q ⟨W0, W, en, d, S', rfl, ok, eo, e, hs, kk⟩
    cases d with
    | lst xs => exact ⟨W0, W, en, xs, S', rfl, ok, eo, e, fun W1 l1 ok1 es1 p vs hp hF hi hn r hz => kk W1 l1 ok1 es1 _ ⟨p, vs, xs, rfl, rfl, hp, hF, hi, hn, r, hz⟩⟩
    | _ => cases hs
theorem SlR.le {K : Kx} {W W1 W2 : Wd} {v : V} {d : Cv.D} {o : Bool} (h : SlR K W W1 v d o) (l : Le W1 W2) : SlR K W W2 v d o := by
  cases o with
  | false => exact l.rp h
  | true =>
    obtain ⟨p, vs, xs, rfl, rfl, h1, h2, h3, h4, h5, h6⟩ := h
    exact ⟨p, vs, xs, rfl, rfl, l.hh _ _ h1 h3, l.nf _ _ h1 h2, l.nio h1 h3, h4, l.rps h5, h6⟩
theorem EnOk.setX {K : Kx} {W0 W W1 : Wd} {en : En} {σ : L2.St} (e : EnOk K W0 W1 en σ) {i : Nat} {v : V} {d : Cv.D} {o : Bool} {s : Sl} (hi : i < en.length) (r : SlR K W W1 v d o) (hs : slL o d = some s) (h0 : Le W0 W)
    (al : ∀ (j : Nat) (x : Ow), en[j]? = some (.own x) → ∃ b ob, σ[j]? = some (some (.ref b)) ∧ W.H b = some ob) : EnOk K W0 W1 (en.set i s) (σ.set i (some v)) := by
  cases o with
  | false =>
    cases hs
    exact e.set hi r
  | true =>
    obtain ⟨p, vs, xs, rfl, rfl, h1, h2, h3, h4, h5, h6⟩ := r
    cases hs
    refine e.setO hi h1 h2 h3 (h0.al _ h4) h5 h6 fun j x hj hσ => ?_
    obtain ⟨b, ob, hb, hw⟩ := al j x hj
    rw [hσ] at hb
    cases hb
    rw [h4] at hw
    cases hw
theorem EnOk.alive {K : Kx} {W0 W : Wd} {en : En} {σ : L2.St} (e : EnOk K W0 W en σ) (j : Nat) (x : Ow) (h : en[j]? = some (.own x)) : ∃ b ob, σ[j]? = some (some (.ref b)) ∧ W.H b = some ob := by
  obtain ⟨a, vs, h1, h2, _⟩ := e.own j x h
  exact ⟨a, _, h1, h2⟩
theorem s_paro {i j : Nat} {oa ob : Bool} {a b : E} : JS g q k (.paro i j oa ob a b) := by
  intro z X W0 x G F hq h
  unfold chkS at h
  split at h
  · rename_i ts kt pt vs k2 pt2 p hv
    cases vAsg_ok hv
    simp only [Bool.and_eq_true, Bool.not_eq_true', decide_eq_true_eq] at h
    obtain ⟨⟨⟨⟨⟨⟨⟨⟨h1, h2⟩, h3⟩, h4⟩, h5⟩, h6⟩, h7⟩, h8⟩, h9⟩ := h
    obtain ⟨x, px, y, py, rfl, a1, a2, a3, a4, a5, a6⟩ := parB2 h1
    have hl := chks_len h7
    match vs, hl with
    | [v, w], _ =>
      have nx : X.N[i]? = some x := by rw [G.N]; exact a1
      have ny : X.N[j]? = some y := by rw [G.N]; exact a2
      have lx : X.env.scope.names.lookup x = some .local := by rw [G.sc]; exact a3
      have ly : X.env.scope.names.lookup y = some .local := by rw [G.sc]; exact a4
      have hc : chk q a false z v = true ∧ chk q b false z w = true := by
        have h7 : (chk q a false z v && (chk q b false z w && true)) = true := h7
        simp only [Bool.and_eq_true] at h7
        exact ⟨h7.1, h7.2.1⟩
      have hn : noStar v = true ∧ noStar w = true := by
        have h6 : (noStar v && (noStar w && true)) = true := h6
        simp only [Bool.and_eq_true] at h6
        exact ⟨h6.1, h6.2.1⟩
      have hpa := pa_cons (px_X (o := oa) G F (by cases oa <;> first | rfl | simpa using h8) hc.1) (pa_cons (px_X (o := ob) G F (by cases ob <;> first | rfl | simpa using h9) hc.2) pa_nil (star_each hn.2 [] X.env)) (star_each hn.1 _ X.env)
      refine PS.weaken (ps_par G.calm G.nd nx ny h2 lx ly hpa (par_sw2 (by rw [G.sc]; exact fnB_ok h3) lx ly a6 (nd_ne G.nd nx ny h2) h6 h4 h5)) ?_
      rintro D σ H ⟨W, en, fl, en', S', rfl, ok, le, eo, hm, he⟩
      unfold st at hm
      obtain ⟨d, S1, e1, hm1⟩ := bnd_inv hm
      obtain ⟨d2, S2, e2, hm2⟩ := bnd_inv hm1
      obtain ⟨sx, S3, g3, hm3⟩ := bnd_inv hm2
      obtain ⟨e3, hs3⟩ := opt_inv g3
      subst hs3
      obtain ⟨sy, S4, g4, hm4⟩ := bnd_inv hm3
      obtain ⟨e4, hs4⟩ := opt_inv g4
      subst hs4
      obtain ⟨g5, hm5⟩ := if_no hm4
      obtain ⟨rfl, rfl, rfl⟩ := nx_inv hm5
      have e5 := Bool.and_eq_true_iff.mp g5
      have hi := of_decide_eq_true e5.1
      have hj := of_decide_eq_true e5.2
      refine ⟨W0, W, en, d, _, rfl, ok, eo, e1, by rw [e3]; rfl, fun W1 l1 ok1 es1 v1 r1 => ?_⟩
      refine ⟨W0, W1, en, d2, _, rfl, ok1, eo.le l1, by rw [es1]; exact e2, by rw [e4]; rfl, fun W2 l2 ok2 es2 v2 r2 => ?_⟩
      have eo2 := ((eo.le l1).le l2).setX hi (r1.le l2) e3 le eo.alive
      refine ⟨v1, v2, rfl, he W2 _ ok2 (le.trans (l1.trans l2)) (l1.trans l2).lw (eo2.setX (by rw [List.length_set]; exact hj) r2 e4 (le.trans l1) ?_) es2⟩
      intro m y hm
      have eo1 := (eo.le l1).setX hi r1 e3 le eo.alive
      exact eo1.alive m y hm
  · cases h
theorem s_seto {i : Nat} {e : E} : JS g q k (.seto i e) := by
  intro z X W0 x G F hq h
  unfold chkS at h
  split at h
  · rename_i y py v p hv
    cases vAsg_ok hv
    simp only [Bool.and_eq_true] at h
    obtain ⟨⟨⟨⟨h0, h1⟩, h2⟩, h4⟩, h3⟩ := h
    obtain ⟨s1, s2⟩ := storeB_ok h2 G.sc G.fn
    have sw : swapsWithSole [.Name y py] v p.line X.env = pure false := swOff_ok (by rw [G.sc]; exact h4)
    refine PS.weaken (ps_set G.nd (by rw [G.N]; exact of_decide_eq_true h1) s1 (fresh_F h0 z X v G F h3) sw s2) ?_
    rintro D σ H ⟨W, en, fl, en', S', rfl, ok, le, eo, hm, he⟩
    unfold st at hm
    obtain ⟨d, S1, e1, hm⟩ := bnd_inv hm
    obtain ⟨ys, S2, e2, hm⟩ := bnd_inv hm
    obtain ⟨rfl, rfl⟩ := isL_inv e2
    obtain ⟨hi, hm⟩ := ifp_no hm
    obtain ⟨rfl, rfl, rfl⟩ := nx_inv hm
    refine ⟨W0, W, en, ys, _, rfl, ok, eo, e1, fun W1 l1 ok1 es1 a vs hp hF hni hn r hz => ?_⟩
    refine he W1 _ ok1 (le.trans l1) l1.lw ?_ es1
    refine EnOk.setO (vs := vs) (eo.le l1) hi hp hF hni (le.al _ hn) r hz ?_
    intro j x hx hs
    obtain ⟨b, ws, b1, b2, _⟩ := eo.own j x hx
    rw [hs] at b1
    cases b1
    rw [hn] at b2; cases b2
  · cases h
theorem s_ext {i : Nat} {e : E} : JS g q k (.ext i e) := by
  intro z X W0 x G F hq h
  unfold chkS at h
  split at h
  · rename_i c hc
    obtain ⟨p, rfl⟩ := vEx_ok hc
    split at h
    · rename_i y v p1 p2 hv
      obtain ⟨p0, rfl⟩ := vExt_ok hv
      simp only [Bool.and_eq_true] at h
      obtain ⟨⟨⟨⟨⟨⟨h0, h1⟩, h2⟩, h3⟩, h4⟩, h5⟩, h6⟩ := h
      have hs := star_each h4 [] X.env
      have pv : PE X (.Name y p0) (tVar i) := var_pe G (by rw [h1, h2, h3]; rfl)
      refine PS.weaken (ps_expr (pe_bm PySem.F.plainAttrs_list PySem.F.slot_list_extend PySem.F.type_list_extend mt_extend pv (pa_cons (fresh_F h0 z X v G F h6) pa_nil hs) (by rfl)
        (by rw [hs]; rfl) h5 hs (by rfl)) (by rfl)) ?_
      rintro D σ H ⟨W, en, fl, en', S', rfl, ok, le, eo, hm, he⟩
      unfold st at hm
      obtain ⟨d, S1, e1, hm⟩ := bnd_inv hm
      obtain ⟨ys, S2, e2, hm8⟩ := bnd_inv hm
      obtain ⟨rfl, rfl⟩ := isL_inv e2
      obtain ⟨en1, S3, e4, hm9⟩ := bnd_inv hm8
      obtain ⟨e3, rfl⟩ := opt_inv e4
      obtain ⟨rfl, rfl, rfl⟩ := nx_inv hm9
      unfold extE at e3
      split at e3
      · rename_i xs hx
        obtain ⟨hz, he3⟩ := ifp_some e3
        subst he3
        obtain ⟨a, _, a1, a2, a3, a4, a5, vs, rfl, a6, a7⟩ := eo.own i _ hx
        refine ⟨_, a1, .inl ⟨rfl, vs, .inl (.inl a2)⟩, ?_⟩
        refine ⟨W0, W, en, ys, _, rfl, ok, eo, e1, fun W1 l1 ok1 es1 b ws hp hF hni hn r hzw => ?_⟩
        have eo1 := eo.le l1
        obtain ⟨a', _, b1, b2, b3, b4, b5, vs', rfl, b6, b7⟩ := eo1.own i _ hx
        rw [a1] at b1
        cases b1
        have hln := b6.len
        have hlw := r.len
        refine ⟨_, b, vs', ws, rfl, rfl, b2, hp, by omega, ?_⟩
        have le1 := le.trans l1
        exact he (W1.wr a (.lst (vs' ++ ws))) σ (ok_wr ok1 b3 b4) (le_wr le1 b5) (l1.lw.trans lw_wr) (eo1.wrO hx a1 b3 b4 b5 (b6.app r) (by rw [List.length_append]; omega)) es1
      · cases e3
    · cases h
  · cases h
theorem s_app {i : Nat} {e : E} : JS g q k (.app i e) := by
  intro z X W0 x G F hq h
  unfold chkS at h
  split at h
  · rename_i c hc
    obtain ⟨p, rfl⟩ := vEx_ok hc
    split at h
    · rename_i y v p1 p2 hv
      obtain ⟨p0, rfl⟩ := vApp_ok hv
      simp only [Bool.and_eq_true] at h
      obtain ⟨⟨⟨⟨⟨h1, h2⟩, h3⟩, h4⟩, h5⟩, h6⟩ := h
      have hs := star_each h4 [] X.env
      have pv : PE X (.Name y p0) (tVar i) := var_pe G (by rw [h1, h2, h3]; rfl)
      refine PS.weaken (ps_expr (pe_bm PySem.F.plainAttrs_list PySem.F.slot_list_append PySem.F.type_list_append mt_append pv (pa_cons (all_E e z X v G F h6) pa_nil hs) (by rfl)
        (by rw [hs]; rfl) h5 hs (by rfl)) (by rfl)) ?_
      rintro D σ H ⟨W, en, fl, en', S', rfl, ok, le, eo, hm, he⟩
      unfold st at hm
      obtain ⟨d, S1, e1, hm⟩ := bnd_inv hm
      obtain ⟨en1, S2, e2, hm9⟩ := bnd_inv hm
      obtain ⟨e3, rfl⟩ := opt_inv e2
      obtain ⟨rfl, rfl, rfl⟩ := nx_inv hm9
      unfold appE at e3
      split at e3
      · rename_i xs hx
        obtain ⟨hz, he3⟩ := ifp_some e3
        subst he3
        obtain ⟨a, _, a1, a2, a3, a4, a5, vs, rfl, a6, a7⟩ := eo.own i _ hx
        refine ⟨_, a1, .inl ⟨rfl, vs, .inl (.inl a2)⟩, ?_⟩
        refine ⟨W0, W, en, rfl, ok, eo, d, _, e1, fun W1 l1 ok1 es1 w r => ?_⟩
        have eo1 := eo.le l1
        obtain ⟨a', _, b1, b2, b3, b4, b5, vs', rfl, b6, b7⟩ := eo1.own i _ hx
        rw [a1] at b1
        cases b1
        have hln := b6.len
        refine ⟨_, vs', w, rfl, rfl, b2, by omega, ?_⟩
        have le1 := le.trans l1
        exact he (W1.wr a (.lst (vs' ++ [w]))) σ (ok_wr ok1 b3 b4) (le_wr le1 b5) (l1.lw.trans lw_wr) (eo1.wrO hx a1 b3 b4 b5 (b6.app (.cons r .nil)) (by rw [List.length_append]; show vs'.length + 1 ≤ _; omega)) es1
      · cases e3
    · cases h
  · cases h
theorem putF_keys {key : Str} {d : D} : ∀ {fs : List (Str × D)} {x : D}, look key fs = some x → (putF key d fs).map (·.1) = fs.map (·.1)
  | [], _, h => nomatch h
  | (s, y) :: r, x, h => by
    have h : (if s = key then some y else look key r) = some x := h
    show ((if s = key then (s, d) :: r else (s, y) :: putF key d r) : List (Str × D)).map (·.1) = _
    by_cases e : s = key
    · rw [if_pos e]; rfl
    · rw [if_neg e] at h ⊢
      rw [List.map_cons, List.map_cons, putF_keys h]
theorem setO_inv {n : Nat} {key : Str} {d : D} {S S' : Sto} {u : Unit} (h : setO n key d S = some (u, S')) : ∃ fs x, S[n]? = some (.fl fs) ∧ look key fs = some x ∧ S' = S.set n (.fl (putF key d fs)) := by
  unfold setO at h
  split at h
  · rename_i fs hf
    split at h
    · rename_i hs
      cases h
      obtain ⟨x, hx⟩ := Option.isSome_iff_exists.mp hs
      exact ⟨fs, x, hf, hx, rfl⟩
    · cases h
  · cases h
theorem sub_sw {v o i : Expr} {p : Pos} {l : Nat} {env : Env} : swapsWith v (some (.Subscript o i p)) l env = pure false := by
  cases v <;> rfl
theorem s_setf {o e : E} {key : Str} : JS g q k (.setf o key e) := by
  intro z X W0 x G F hq h
  unfold chkS at h
  split at h
  · rename_i tg v p hv
    cases vAsg_ok hv
    split at h
    · rename_i x y hs
      obtain ⟨p2, rfl⟩ := vSub_ok hs
      rw [Bool.and_eq_true, Bool.and_eq_true] at h
      obtain ⟨⟨h1, h2⟩, h3⟩ := h
      split at h3
      · rename_i c hc
        obtain ⟨j, p3, rfl⟩ := vConst_ok hc
        cases constB_ok h3
        refine PS.weaken (ps_dput (by have := G.un; omega) (all_E o z X x G F h1) pe_str (all_E e z X v G F h2) sub_sw) ?_
        rintro D σ H ⟨W, en, fl, en', S', rfl, ok, le, eo, hm, he⟩
        unfold st at hm
        obtain ⟨d, S1, e1, hm⟩ := bnd_inv hm
        obtain ⟨dx, S2, e2, hm⟩ := bnd_inv hm
        obtain ⟨n, S3, e3, hm8⟩ := bnd_inv hm
        obtain ⟨rfl, rfl⟩ := isO_inv e3
        obtain ⟨u, S4, e4, hm9⟩ := bnd_inv hm8
        obtain ⟨rfl, rfl, rfl⟩ := nx_inv hm9
        obtain ⟨fs, x0, f1, f2, rfl⟩ := setO_inv e4
        refine ⟨W0, W, _, rfl, ok, eo, d, _, e1, fun W1 l1 ok1 es1 v1 r1 => ?_⟩
        refine ⟨W0, W1, _, rfl, ok1, eo.le l1, _, _, by rw [es1]; exact e2, fun W2 l2 ok2 es2 v2 r2 => ?_⟩
        cases r2 with
        | @obj a _ hn =>
          rw [← es2] at f1
          obtain ⟨b, ho, b1, b2, b3, kvs, rfl, bz, bn, bf⟩ := ok2.ob n _ f1
          rw [hn] at b1
          cases b1
          obtain ⟨w, g1, g2⟩ := flds_look bf f2
          refine ⟨_, _, rfl, DPut.k (k := (Sum.inr key : Key)) b2 (by have := sizeLine_eq; omega), ?_⟩
          rw [putK_any g1]
          have hl : n < W2.S.length := (List.getElem?_eq_some_iff.mp f1).1
          refine he (W2.st n a (.fl (putF key d fs)) (.dK _)) σ (ok_st ok2 hl hn ⟨_, rfl, by rw [List.length_map]; exact bz, ?_, flds_put (l2.rp r1) bf bn f2⟩) ((le.trans (l1.trans l2)).trans (le_st ok2 hn)) ?_ ((eo.le (l1.trans l2)).le (le_st ok2 hn)) ?_
          · rw [putF_keys f2]; exact bn
          · exact (l1.trans l2).lw.trans ⟨fun _ _ h => h, fun _ _ h => h⟩
          · show W2.S.set n _ = _
            rw [es2]
      · cases h3
    · cases h
  · cases h
theorem setI_inv {n i : Nat} {d : D} {S S' : Sto} {u : Unit} (h : setI n i d S = some (u, S')) : ∃ ds, S[n]? = some (.cel ds) ∧ i < ds.length ∧ S' = S.set n (.cel (ds.set i d)) := by
  unfold setI at h
  split at h
  · rename_i ds hf
    split at h
    · rename_i hs
      cases h
      exact ⟨ds, hf, hs, rfl⟩
    · cases h
  · cases h
theorem Reps.set {K : Kx} {F : Hp} {io : List Addr} {v : V} {d : D} : ∀ {vs : List V} {ds : List D} (i : Nat), Reps K F io vs ds → Rep K F io v d → Reps K F io (vs.set i v) (ds.set i d)
  | _, _, _, .nil, _ => .nil
  | _, _, 0, .cons h r, q => .cons q r
  | _, _, i + 1, .cons h r, q => .cons h (Reps.set i r q)
theorem s_seti {o e : E} {i : Nat} : JS g q k (.seti o i e) := by
  intro z X W0 x G F hq h
  unfold chkS at h
  split at h
  · rename_i tg v p hv
    cases vAsg_ok hv
    split at h
    · rename_i x y hs
      obtain ⟨p2, rfl⟩ := vSub_ok hs
      rw [Bool.and_eq_true, Bool.and_eq_true] at h
      obtain ⟨⟨h1, h2⟩, h3⟩ := h
      split at h3
      · rename_i j hc
        obtain ⟨j0, p3, rfl⟩ := vConst_ok hc
        cases of_decide_eq_true h3
        refine PS.weaken (ps_asg (all_E e z X v G F h2) (pg_sub (all_E o z X x G F h1) pe_int set_list) (show swapsWithSole [.Subscript x (.Constant (.int (i : Int)) j0 p3) p2] v p.line X.env = pure false from sub_sw (v := v) (o := x) (i := .Constant (.int (i : Int)) j0 p3) (p := p2) (l := p.line) (env := X.env)) (by cases v <;> rfl)) ?_
        rintro D σ H ⟨W, en, fl, en', S', rfl, ok, le, eo, hm, he⟩
        unfold st at hm
        obtain ⟨d, S1, e1, hm⟩ := bnd_inv hm
        obtain ⟨dx, S2, e2, hm⟩ := bnd_inv hm
        obtain ⟨n, S3, e3, hm8⟩ := bnd_inv hm
        obtain ⟨rfl, rfl⟩ := isO_inv e3
        obtain ⟨u, S4, e4, hm9⟩ := bnd_inv hm8
        obtain ⟨rfl, rfl, rfl⟩ := nx_inv hm9
        obtain ⟨ds, f1, f2, rfl⟩ := setI_inv e4
        refine ⟨W0, W, _, rfl, ok, eo, d, _, e1, fun W1 l1 ok1 es1 v1 r1 => ?_⟩
        refine ⟨W0, W1, _, rfl, ok1, eo.le l1, _, _, by rw [es1]; exact e2, fun W2 l2 ok2 es2 v2 r2 => ?_⟩
        cases r2 with
        | @obj a _ hn =>
          rw [← es2] at f1
          obtain ⟨b, ho, b1, b2, b3, vs, rfl, bz, br⟩ := ok2.ob n _ f1
          rw [hn] at b1
          cases b1
          have hlen := Reps.len br
          have hl : n < W2.S.length := (List.getElem?_eq_some_iff.mp f1).1
          refine ⟨_, vs, (i : Int), i, rfl, rfl, b2, ?_, ?_⟩
          · unfold ixN
            rw [if_pos (by omega), if_pos (by omega)]
            simp
          · refine he (W2.st n a (.cel (ds.set i d)) (.lst (vs.set i v1))) σ (ok_st ok2 hl hn ⟨_, rfl, by rw [List.length_set]; exact bz, Reps.set i br (l2.rp r1)⟩) ((le.trans (l1.trans l2)).trans (le_st ok2 hn)) ?_ ((eo.le (l1.trans l2)).le (le_st ok2 hn)) ?_
            · exact (l1.trans l2).lw.trans ⟨fun _ _ h => h, fun _ _ h => h⟩
            · show W2.S.set n _ = _
              rw [es2]
      · cases h3
    · cases h
  · cases h
theorem s_ife {c : E} {a b : List S} (ha : JSs g q k a) (hb : JSs g q k b) : JS g q k (.ife c a b) := by
  intro z X W0 x G F hq h
  unfold chkS at h
  split at h
  · rename_i e u w hv
    obtain ⟨p, rfl⟩ := vIfS_ok hv
    simp only [Bool.and_eq_true] at h
    obtain ⟨⟨h1, h2⟩, h3⟩ := h
    refine PS.weaken (ps_if (all_T c z X e G F h1).1 (ha z X W0 u G F hq h2) (hb z X W0 w G F hq h3)) ?_
    rintro D σ H ⟨W, en, fl, en', S', rfl, ok, le, eo, hm, he⟩
    unfold st at hm
    obtain ⟨t, S1, e1, e2⟩ := bnd_inv hm
    refine ⟨W0, W, en, rfl, ok, eo, t, S1, e1, fun W1 l1 ok1 es1 t' ht => ?_⟩
    subst ht
    cases t' with
    | true => exact iteT ⟨W1, en, fl, en', S', rfl, ok1, le.trans l1, eo.le l1, by rw [es1]; exact e2, he.lw l1.lw⟩
    | false => exact iteF ⟨W1, en, fl, en', S', rfl, ok1, le.trans l1, eo.le l1, by rw [es1]; exact e2, he.lw l1.lw⟩
  · cases h
theorem s_whl {c : E} {b : List S} (hb : JSs g q k b) : JS g q k (.whl c b) := by
  intro z X W0 x G F hq h
  unfold chkS at h
  split at h
  · rename_i e w hv
    obtain ⟨p, rfl⟩ := vWhl_ok hv
    simp only [Bool.and_eq_true] at h
    obtain ⟨h1, h2⟩ := h
    refine PS.weaken (ps_while hq (all_T c z X e G F h1).1 (hb z X W0 w G F hq h2)) ?_
    rintro D σ H ⟨W, en, fl, en', S', rfl, ok, le, eo, hm, he⟩
    unfold st at hm
    generalize FUEL = n at hm
    refine ⟨fun m σ H => ∃ W2 en2, Wd.H W2 = H ∧ W2.Ok X.kx ∧ Le W0 W2 ∧ Lw W W2 ∧ EnOk X.kx W0 W2 en2 σ ∧ whlM (fun en1 => evt g c en1) (fun en1 => sts g b en1) m en2 W2.S = some ((fl, en'), S'), ⟨n, W, en, rfl, ok, le, Lw.refl _, eo, hm⟩, ?_⟩
    rintro m σ1 H1 ⟨W2, en2, rfl, ok2, le2, lw2, eo2, hm2⟩
    cases m with
    | zero => exact (no_inv (S := W2.S) hm2).elim
    | succ m =>
      obtain ⟨t, S1, g1, g2⟩ := bnd_inv (show M.bnd (evt g c en2) (fun t => if t = true then M.bnd (sts g b en2) (fun r => match r.1 with
        | .nx => whlM (fun en1 => evt g c en1) (fun en1 => sts g b en1) m r.2
        | .ct => whlM (fun en1 => evt g c en1) (fun en1 => sts g b en1) m r.2
        | .brk => M.ret (.nx, r.2)
        | .ret d => M.ret (.ret d, r.2)) else M.ret (.nx, en2)) W2.S = some ((fl, en'), S') from hm2)
      refine ⟨W0, W2, en2, rfl, ok2, eo2, t, S1, g1, fun W3 l3 ok3 es3 t' ht => ?_⟩
      subst ht
      have lw3 := lw2.trans l3.lw
      cases t' with
      | false =>
        obtain ⟨rfl, rfl, rfl⟩ := nx_inv g2
        exact iteF (he W3 σ1 ok3 (le2.trans l3) lw3 (eo2.le l3) es3)
      | true =>
        obtain ⟨⟨fl1, en3⟩, S2, g3, g4⟩ := bnd_inv g2
        refine iteT ⟨fun σ' H' => ∃ m', m' < m + 1 ∧ ∃ W2 en2, Wd.H W2 = H' ∧ W2.Ok X.kx ∧ Le W0 W2 ∧ Lw W W2 ∧ EnOk X.kx W0 W2 en2 σ' ∧ whlM (fun en1 => evt g c en1) (fun en1 => sts g b en1) m' en2 W2.S = some ((fl, en'), S'), fun _ _ h => h, ?_⟩
        refine ⟨W3, en2, fl1, en3, S2, rfl, ok3, le2.trans l3, eo2.le l3, by rw [es3]; exact g3, ?_⟩
        cases fl1 with
        | nx => exact fun W4 σ4 ok4 le4 lw4 eo4 es4 => ⟨m, Nat.lt_succ_self m, W4, en3, rfl, ok4, le4, lw3.trans lw4, eo4, by rw [es4]; exact g4⟩
        | ct => exact fun W4 σ4 ok4 le4 lw4 eo4 es4 => ⟨m, Nat.lt_succ_self m, W4, en3, rfl, ok4, le4, lw3.trans lw4, eo4, by rw [es4]; exact g4⟩
        | brk =>
          obtain ⟨rfl, rfl, rfl⟩ := nx_inv g4
          exact fun W4 σ4 ok4 le4 lw4 eo4 es4 => he W4 σ4 ok4 le4 (lw3.trans lw4) eo4 es4
        | ret d =>
          obtain ⟨rfl, rfl, rfl⟩ := nx_inv g4
          exact fun W4 v ok4 le4 lw4 es4 r => he W4 v ok4 le4 (lw3.trans lw4) es4 r
  · cases h
theorem s_frr {t : Tg} {it : Wi} {b : List S} (hb : JSs g q k b) : JS g q k (.frr t it b) := by
  intro z X W0 x G F hq h
  unfold chkS at h
  split at h
  · rename_i tg e w hv
    obtain ⟨p, rfl⟩ := vFor_ok hv
    simp only [Bool.and_eq_true] at h
    obtain ⟨⟨⟨h1, h2⟩, h3⟩, h4⟩ := h
    refine PS.weaken (ps_for hq G.calm (all_I it z X tg e G F h3) (pg_tg G t tg h1) (hb z X W0 w G F hq h4) (noSet_ok h2 X.env)) ?_
    rintro D σ H ⟨W, en, fl, en', S', rfl, ok, le, eo, hm, he⟩
    unfold st at hm
    obtain ⟨ds, S1, e1, e2⟩ := bnd_inv hm
    refine ⟨W0, W, en, rfl, ok, eo, ds, S1, e1, fun W1 l1 ok1 es1 J wk => ?_⟩
    have lw1 := l1.lw
    refine ⟨fun i m σ H => m = ds.length - i ∧ i ≤ ds.length ∧ ∃ W2 en2, Wd.H W2 = H ∧ W2.Ok X.kx ∧ Le W0 W2 ∧ Lw W1 W2 ∧ EnOk X.kx W0 W2 en2 σ ∧ forM (fun d en1 => M.opt (asg t d en1)) (fun en1 => sts g b en1) (ds.drop i) en2 W2.S = some ((fl, en'), S'),
      ⟨ds.length, rfl, Nat.zero_le _, W1, en, rfl, ok1, le.trans l1, Lw.refl _, eo.le l1, by rw [es1]; exact e2⟩, ?_⟩
    rintro i m σ1 H1 ⟨rfl, hi, W2, en2, rfl, ok2, le2, lw2, eo2, hm2⟩
    by_cases hlt : i < ds.length
    · refine .inr ⟨wk.go W2 i lw2 ok2 hlt, fun σ H => ∃ W2 en2, Wd.H W2 = H ∧ W2.Ok X.kx ∧ Le W0 W2 ∧ Lw W1 W2 ∧ EnOk X.kx W0 W2 en2 σ ∧ forM (fun d en1 => M.opt (asg t d en1)) (fun en1 => sts g b en1) (ds.drop (i + 1)) en2 W2.S = some ((fl, en'), S'),
        fun σ' H' hN => ⟨ds.length - (i + 1), by omega, rfl, hlt, hN⟩, fun y H' hy => ?_⟩
      obtain ⟨W3, d, rfl, l3, ok3, es3, hd3, r3⟩ := wk.yl W2 i y H' lw2 ok2 hlt hy
      have hdr : ds.drop i = d :: ds.drop (i + 1) := by
        rw [List.drop_eq_getElem_cons hlt]
        congr 1
        rw [List.getElem?_eq_getElem hlt] at hd3
        exact Option.some.inj hd3
      rw [hdr] at hm2
      obtain ⟨en3, S3, g1, g2⟩ := bnd_inv (show M.bnd (M.opt (asg t d en2)) (fun en1 => M.bnd (sts g b en1) fun r => match r.1 with
        | .nx => forM (fun d en1 => M.opt (asg t d en1)) (fun en1 => sts g b en1) (ds.drop (i + 1)) r.2
        | .ct => forM (fun d en1 => M.opt (asg t d en1)) (fun en1 => sts g b en1) (ds.drop (i + 1)) r.2
        | .brk => M.ret (.nx, r.2)
        | .ret d => M.ret (.ret d, r.2)) W2.S = some ((fl, en'), S') from hm2)
      obtain ⟨g3, rfl⟩ := opt_inv g1
      obtain ⟨⟨fl1, en4⟩, S4, g4, g5⟩ := bnd_inv g2
      have lw3 := lw2.trans l3.lw
      refine ⟨W0, W3, en2, d, en3, rfl, ok3, eo2.le l3, r3, g3, fun σ2 eo4 _ => ?_⟩
      refine ⟨W3, en3, fl1, en4, S4, rfl, ok3, le2.trans l3, eo4, by rw [es3]; exact g4, ?_⟩
      cases fl1 with
      | nx => exact fun W4 σ4 ok4 le4 lw4 eo4 es4 => ⟨W4, en4, rfl, ok4, le4, lw3.trans lw4, eo4, by rw [es4]; exact g5⟩
      | ct => exact fun W4 σ4 ok4 le4 lw4 eo4 es4 => ⟨W4, en4, rfl, ok4, le4, lw3.trans lw4, eo4, by rw [es4]; exact g5⟩
      | brk =>
        obtain ⟨rfl, rfl, rfl⟩ := nx_inv g5
        exact fun W4 σ4 ok4 le4 lw4 eo4 es4 => he W4 σ4 ok4 le4 ((lw1.trans lw3).trans lw4) eo4 es4
      | ret d =>
        obtain ⟨rfl, rfl, rfl⟩ := nx_inv g5
        exact fun W4 v ok4 le4 lw4 es4 r => he W4 v ok4 le4 ((lw1.trans lw3).trans lw4) es4 r
    · have e0 : i = ds.length := by omega
      subst e0
      rw [List.drop_length] at hm2
      obtain ⟨rfl, rfl, rfl⟩ := nx_inv (show M.ret (Fl.nx, en2) W2.S = some ((fl, en'), S') from hm2)
      exact .inl ⟨wk.st W2 lw2 ok2, he W2 σ1 ok2 le2 (lw1.trans lw2) eo2 rfl⟩
  · cases h
theorem ss_nil : JSs g q k [] := by
  intro z X W0 x G F hq h
  cases x with
  | nil =>
    refine PSs.weaken pss_nil ?_
    rintro D σ H ⟨W, en, fl, en', S', rfl, ok, le, eo, hm, he⟩
    obtain ⟨rfl, rfl, rfl⟩ := nx_inv (show M.ret (Fl.nx, en) W.S = some ((fl, en'), S') from hm)
    exact he W σ ok le (Lw.refl _) eo rfl
  | cons a b => cases h
theorem sts_inv {s : S} {r : List S} {en en' : En} {fl : Fl} {S S' : Sto} (h : sts g (s :: r) en S = some ((fl, en'), S')) : ∃ fl1 en1 S1, st g s en S = some ((fl1, en1), S1) ∧ (match fl1 with
    | .nx => sts g r en1
    | _ => M.ret (fl1, en1)) S1 = some ((fl, en'), S') := by
  unfold sts at h
  obtain ⟨⟨fl1, en1⟩, S1, h1, h2⟩ := bnd_inv h
  refine ⟨fl1, en1, S1, h1, ?_⟩
  cases fl1 <;> exact h2
theorem ss_cons {s : S} {r : List S} {z : Zs} {X : Cx} {W0 : Wd} {x : Stmt} {xs : List Stmt} (h1 : PS X x (tS X.kx W0 (st g s))) (h2 : PSs X xs (tS X.kx W0 (sts g r))) : PSs X (x :: xs) (tS X.kx W0 (sts g (s :: r))) := by
  refine PSs.weaken (pss_cons h1 h2) ?_
  rintro D σ H ⟨W, en, fl, en', S', rfl, ok, le, eo, hm, he⟩
  obtain ⟨fl1, en1, S1, e1, e2⟩ := sts_inv hm
  refine ⟨W, en, fl1, en1, S1, rfl, ok, le, eo, e1, ?_⟩
  cases fl1 with
  | nx => exact fun W1 σ1 ok1 le1 lw1 eo1 es1 => ⟨W1, en1, fl, en', S', rfl, ok1, le1, eo1, by rw [es1]; exact e2, he.lw lw1⟩
  | brk =>
    obtain ⟨rfl, rfl, rfl⟩ := nx_inv e2
    exact he
  | ct =>
    obtain ⟨rfl, rfl, rfl⟩ := nx_inv e2
    exact he
  | ret d =>
    obtain ⟨rfl, rfl, rfl⟩ := nx_inv e2
    exact he
theorem ss_frz {i : Nat} {r : List S} {X : Cx} {W0 : Wd} {xs : List Stmt} (h2 : PSs X xs (tS X.kx W0 (sts g r))) : PSs X xs (tS X.kx W0 (sts g (.frz i :: r))) := by
  refine ⟨fun pins s σ H D I h => ?_⟩
  obtain ⟨W, en, fl, en', S', rfl, ok, le, eo, hm, he⟩ := h
  obtain ⟨fl1, en1, S1, e1, e2⟩ := sts_inv hm
  unfold st at e1
  obtain ⟨en2, S2, e3, e4⟩ := bnd_inv e1
  obtain ⟨e5, rfl⟩ := opt_inv e3
  obtain ⟨rfl, rfl, rfl⟩ := nx_inv e4
  unfold frzE at e5
  split at e5
  · rename_i xs hx
    cases e5
    obtain ⟨p, _, a1, a2, a3, a4, a5, vs, rfl, a6, a7⟩ := eo.own i _ hx
    have hH : upd W.H p (.lst vs) = W.H := by
      funext b
      by_cases z : b = p
      · rw [z, upd_same, a2]
      · rw [upd_ne z]
    have lw : Lw W (W.fw p (.lst vs)) := ⟨ff_fw a3, fun _ _ h => h⟩
    refine h2.run pins s σ _ D I ⟨W.fw p (.lst vs), _, fl, en', S', hH, ok_fw ok a3 a4, le_fw le a5 a3, eo.fzW hx a1 a3 (.lst (.inl upd_same) a7 (lw.rps a6)), e2, he.lw lw⟩
  · rename_i ks vs hx
    cases e5
    obtain ⟨p, _, a1, a2, a3, a4, a5, L, rfl, hz, a6, a7, a8⟩ := eo.own i _ hx
    obtain ⟨o, I2⟩ := dc_lock I a2
    have lw : Lw W (W.fw p (.frz o (DcV X.w p L))) := ⟨ff_fw a3, fun _ _ h => h⟩
    refine h2.run pins s σ _ D I2 ⟨W.fw p (.frz o (DcV X.w p L)), _, fl, en', S', rfl, ok_fw ok a3 a4, le_fw le a5 a3, eo.fzW hx a1 a3 (.dct (o := o) upd_same hz (lw.rps a6) (lw.rps a7) a8), e2, he.lw lw⟩
  · cases e5
    exact h2.run pins s σ _ D I ⟨W, _, fl, en', S', rfl, ok, le, eo, e2, he⟩
  · cases e5
theorem s_put {i : Nat} {c e : E} : JS g q k (.put i c e) := by
  intro z X W0 x G F hq h
  unfold chkS at h
  split at h
  · rename_i tg v p hv
    cases vAsg_ok hv
    split at h
    · rename_i b y hs
      obtain ⟨p2, rfl⟩ := vSub_ok hs
      split at h
      · rename_i n hn
        obtain ⟨p3, rfl⟩ := vName_ok hn
        simp only [Bool.and_eq_true] at h
        obtain ⟨⟨⟨⟨h1, h2⟩, h3⟩, h4⟩, h5⟩ := h
        refine PS.weaken (ps_dcput (by have := G.un; omega) (var_pe (i := i) G (by rw [h1, h2, h3]; rfl)) (all_E c z X y G F h5) (all_E e z X v G F h4) sub_sw) ?_
        rintro D σ H ⟨W, en, fl, en', S', rfl, ok, le, eo, hm, he⟩
        unfold st at hm
        obtain ⟨d, S1, e1, hm1⟩ := bnd_inv hm
        obtain ⟨dx, S2, e2, hm2⟩ := bnd_inv hm1
        obtain ⟨en1, S3, e3, hm3⟩ := bnd_inv hm2
        obtain ⟨e4, rfl⟩ := opt_inv e3
        obtain ⟨rfl, rfl, rfl⟩ := nx_inv hm3
        unfold putE at e4
        split at e4
        · rename_i ks vs hx
          obtain ⟨hz, he4⟩ := if_some e4
          subst he4
          rw [Bool.and_eq_true] at hz
          obtain ⟨hk, hz⟩ := hz
          have hz := of_decide_eq_true hz
          refine ⟨W0, W, _, rfl, ok, eo, d, _, e1, fun W1 l1 ok1 es1 v1 r1 => ?_⟩
          have eo1 := eo.le l1
          obtain ⟨a, _, a1, a2, a3, a4, a5, L, rfl, a6, a7, a8, a9⟩ := eo1.own i _ hx
          refine ⟨_, a1, ?_⟩
          refine ⟨W0, W1, _, rfl, ok1, eo1, _, _, by rw [es1]; exact e2, fun W2 l2 ok2 es2 v2 r2 => ?_⟩
          have eo2 := eo1.le l2
          obtain ⟨a', _, b1, b2, b3, b4, b5, L2, rfl, b6, b7, b8, b9⟩ := eo2.own i _ hx
          rw [a1] at b1
          cases b1
          obtain ⟨m, kx, ask, hk1, hk2⟩ := ask_D ok2 (.inr ⟨b2, b4⟩) b7 b9 r2.rd hk
          have hlen := b7.len
          rw [List.length_map] at hlen
          obtain ⟨p1, p2, p3⟩ := put_rep hk1 r2 (l2.rp r1) b7 b8 b9
          have hl2 : (putN L2 v2 kx v1).length ≤ sizeLine := by
            have := p1.len
            rw [List.length_map] at this
            rw [this]
            unfold putKs
            split <;> first | omega | (rw [List.length_append]; show ks.length + 1 ≤ _; omega)
          refine ⟨_, m, L2, kx, rfl, b2, ask, by omega, ?_⟩
          have le2 := le.trans (l1.trans l2)
          exact he (W2.wr a (DcV X.w a (putN L2 v2 kx v1))) σ (ok_wr ok2 b3 b4) (le_wr le2 b5) ((l1.trans l2).lw.trans lw_wr) (eo2.wrW hx a1 b3 b4 b5 ⟨_, rfl, hl2, p1, p2, p3⟩) es2
        · cases e4
      · cases h
    · cases h
  · cases h
theorem s_prim {p : PrimS} {es : Es} : JS g q k (.prim p es) := by
  intro z X W0 x G F hq h
  unfold chkS at h
  split at h
  · rename_i l hl
    have := p.snd z X x l (toL g es) G F hl (all_Q es z X _ l G F h) W0
    have e : (fun en => M.bnd (seqM (toL g es) en) fun ds => M.bnd (p.sem g ds en) fun en' => M.ret (Fl.nx, en')) = st g (.prim p es) := by
      funext en
      rw [toL_seq]
      rfl
    rw [e] at this
    exact this
  · cases h
theorem ss_never {r : List S} {X : Cx} {W0 : Wd} {xs : List Stmt} : PSs X xs (tS X.kx W0 (sts g (.never :: r))) := by
  refine PSs.weaken pss_never ?_
  rintro D σ H ⟨W, en, fl, en', S', rfl, ok, le, eo, hm, he⟩
  obtain ⟨fl1, en1, S1, e1, e2⟩ := sts_inv hm
  exact (no_inv (S := W.S) e1).elim
mutual
theorem all_S : ∀ s : S, JS g q k s
  | .set _ _ => s_set
  | .setc _ _ => s_setc
  | .par _ _ _ _ => s_par
  | .paro _ _ _ _ _ _ => s_paro
  | .par3 _ _ _ _ _ _ => s_par3
  | .brk => s_brk
  | .ct => s_ct
  | .ex _ => s_ex
  | .seto _ _ => s_seto
  | .frz _ => fun _ _ _ _ _ _ _ h => nomatch h
  | .app _ _ => s_app
  | .ext _ _ => s_ext
  | .put _ _ _ => s_put
  | .prim _ _ => s_prim
  | .ife _ a b => s_ife (all_Ss a) (all_Ss b)
  | .whl _ b => s_whl (all_Ss b)
  | .frr _ _ b => s_frr (all_Ss b)
  | .ret _ => s_ret
  | .retn => s_retn
  | .setf _ _ _ => s_setf
  | .seti _ _ _ => s_seti
  | .pass => s_pass
  | .never => s_never
theorem all_Ss : ∀ s : List S, JSs g q k s
  | [] => ss_nil
  | s :: r => by
    intro z X W0 x G F hq h
    have hr := all_Ss r
    have hs := all_S s
    unfold chkSs at h
    split at h
    · exact ss_frz (hr z X W0 x G F hq h)
    · exact ss_never
    · split at h
      · rename_i y ys
        rw [Bool.and_eq_true] at h
        exact ss_cons (z := z) (hs z X W0 y G F hq h.1) (hr z X W0 ys G F hq h.2)
      · cases h
end
end
end Cv

/-! Cv13: defs, the law's end. -/
namespace Cv
open PySem PySem.Spec PyProof.Rows L2

theorem start_at {N : List Str} {vs : List V} {i : Nat} {v : V} (h : vs[i]? = some v) : (L2.start N vs)[i]? = some (some v) := by
  unfold L2.start
  have hl := (List.getElem?_eq_some_iff.mp h).1
  rw [List.getElem?_append_left (by rw [List.length_map]; exact hl), List.getElem?_map, h]
  rfl
theorem enOk_start {K : Kx} {W : Wd} {N : List Str} {vs : List V} {ds : List D} (r : W.Rps K vs ds) : EnOk K W W (startE N.length ds) (L2.start N vs) := by
  have hl := r.len
  have own : ∀ (i : Nat) x, (startE N.length ds)[i]? = some (.own x) → False := fun i x h => by
    unfold startE at h
    by_cases hi : i < ds.length
    · rw [List.getElem?_append_left (by rw [List.length_map]; exact hi), List.getElem?_map] at h
      cases e : ds[i]? with
      | none => rw [e] at h; cases h
      | some d => rw [e] at h; cases h
    · rw [List.getElem?_append_right (by rw [List.length_map]; exact Nat.not_lt.mp hi), List.getElem?_replicate] at h
      split at h <;> cases h
  refine ⟨?_, fun i d h => ?_, fun i xs h => (own i _ h).elim, fun i j x y h => (own i x h).elim⟩
  · unfold startE L2.start
    simp only [List.length_append, List.length_map, List.length_replicate, hl]
  · unfold startE at h
    by_cases hi : i < ds.length
    · rw [List.getElem?_append_left (by rw [List.length_map]; exact hi), List.getElem?_map] at h
      cases e : ds[i]? with
      | none => rw [e] at h; cases h
      | some d0 =>
        rw [e] at h
        cases h
        obtain ⟨v, h1, h2⟩ := r.get e
        exact ⟨v, start_at h1, h2⟩
    · rw [List.getElem?_append_right (by rw [List.length_map]; exact Nat.not_lt.mp hi), List.getElem?_replicate] at h
      split at h <;> cases h
/-- what is known of a def's name -/
def Kn (P : Program) (w : World) (K : PySem.W.Frag) (mg : Str → Option Value) (base : Heap) (k : Nat) (x : Str) (n : Nat) (m : List D → M D) : Prop :=
  ∃ f fd ps, mg x = some (.ref f) ∧ PySem.W.keepIn K (.ref f) = true ∧ FnC P w K mg base k f fd ps m ∧ Binds K fd ps [] ∧ ps.length = n
inductive Kns (P : Program) (w : World) (K : PySem.W.Frag) (mg : Str → Option Value) (base : Heap) (k : Nat) : List (Str × Nat) → List (List D → M D) → Prop
  | nil : Kns P w K mg base k [] []
  | cons {x : Str} {n : Nat} {m : List D → M D} {xs : List (Str × Nat)} {ms : List (List D → M D)} : Kn P w K mg base k x n m → Kns P w K mg base k xs ms → Kns P w K mg base k ((x, n) :: xs) (m :: ms)
/-- what is known of a constant's name -/
def Kg (P : Program) (w : World) (K : PySem.W.Frag) (mg : Str → Option Value) (x : Str) (d : D) : Prop := ∃ v u, mg x = some u ∧ RelV v u ∧ ∀ F io, Rep ⟨K, P, w⟩ F io v d
inductive Kgs (P : Program) (w : World) (K : PySem.W.Frag) (mg : Str → Option Value) : List Str → List D → Prop
  | nil : Kgs P w K mg [] []
  | cons {x : Str} {d : D} {xs : List Str} {ds : List D} : Kg P w K mg x d → Kgs P w K mg xs ds → Kgs P w K mg (x :: xs) (d :: ds)
section
variable {P : Program} {w : World} {K : PySem.W.Frag} {mg : Str → Option Value} {base : Heap}
theorem FnC.mono {j k : Nat} {f : Addr} {fd : FuncData} {ps : List Str} {m : List D → M D} (F : FnC P w K mg base j f fd ps m) (h : j ≤ k) : FnC P w K mg base k f fd ps m :=
  ⟨fun A o s H ar us vs Q hr => F.go A o s H ar us vs Q (hr.mono h)⟩
theorem Kn.mono {j k : Nat} {x : Str} {n : Nat} {m : List D → M D} (h : j ≤ k) : Kn P w K mg base j x n m → Kn P w K mg base k x n m := by
  rintro ⟨f, fd, ps, a, b, c, d, e⟩
  exact ⟨f, fd, ps, a, b, c.mono h, d, e⟩
theorem Kns.at_ {k : Nat} : ∀ {xs : List (Str × Nat)} {ms : List (List D → M D)}, Kns P w K mg base k xs ms → ∀ (j : Nat) x n, xs[j]? = some (x, n) → ∃ m, ms[j]? = some m ∧ Kn P w K mg base k x n m
  | _, _, .nil, j, x, n, h => by simp at h
  | _, _, .cons a r, 0, x, n, h => by
    simp at h
    obtain ⟨rfl, rfl⟩ := h
    exact ⟨_, rfl, a⟩
  | _, _, .cons a r, j + 1, x, n, h => by
    obtain ⟨m, h1, h2⟩ := Kns.at_ r j x n (by simpa using h)
    exact ⟨m, by simpa using h1, h2⟩
theorem Kgs.at_ : ∀ {xs : List Str} {ds : List D}, Kgs P w K mg xs ds → ∀ (j : Nat) x, xs[j]? = some x → ∃ d, ds[j]? = some d ∧ Kg P w K mg x d
  | _, _, .nil, j, x, h => by simp at h
  | _, _, .cons a r, 0, x, h => by
    simp at h
    subst h
    exact ⟨_, rfl, a⟩
  | _, _, .cons a r, j + 1, x, h => by
    obtain ⟨d, h1, h2⟩ := Kgs.at_ r j x (by simpa using h)
    exact ⟨d, by simpa using h1, h2⟩
/-- the body runs as the core says -/
theorem body_ok {g : Cf} {q : Ck} {k : Nat} {b : List S} {scope : Scope} {body : List Stmt} {X : Cx} {ps : List Str} (G : Gd q ⟨scope, none⟩ X) (Fs0 : Fs g q k X) (hx : X.xe = fun _ _ => False) (hc : chkSs q b ⟨scope, none⟩ body = true) {vs : List V} {H : Hp} {Q : VK}
    (h : spC X.kx (run g ⟨X.N.length, b⟩ ps.length) vs H Q) : ∃ t, PSs X body t ∧ t { nx := fun _ H' => Q .non H', rt := Q } (L2.start X.N vs) H := by
  obtain ⟨W, ds, rfl, ok, r, d, S', e, kk⟩ := h
  refine ⟨tS X.kx W (sts g b), all_Ss b ⟨scope, none⟩ X W body G Fs0 (by show PassesOwn _ _ _ _; rw [hx]; exact .never) hc, ?_⟩
  unfold run at e
  by_cases hl : ds.length = ps.length
  · rw [if_pos hl] at e
    obtain ⟨⟨fl, en'⟩, S1, e1, e2⟩ := bnd_inv e
    refine ⟨W, _, fl, en', S1, rfl, ok, Le.refl _, enOk_start r, e1, ?_⟩
    cases fl with
    | nx =>
      obtain ⟨rfl, rfl⟩ := ret_inv e2
      exact fun W' σ' ok' le' lw' eo' es' => kk W' le' ok' es' .non .non
    | ret d0 =>
      obtain ⟨rfl, rfl⟩ := ret_inv e2
      exact fun W' v ok' le' lw' es' rv => kk W' le' ok' es' v rv
    | brk => exact (no_inv (S := S1) e2).elim
    | ct => exact (no_inv (S := S1) e2).elim
  · rw [if_neg hl] at e
    exact (no_inv (S := W.S) e).elim
/-- THE RULE of a def -/
theorem def_C {x qual : Str} {args : Arguments} {body : List Stmt} {scope : Scope} {f : Addr} {fd : FuncData} {N ps : List Str} {g : Cf} {q : Ck} {k : Nat} {b : List S} (D : FunD K x qual args body scope [] [] f fd) (hS : FnScope N ps scope) (hq : q.N = N)
    (hc : chkSs q b ⟨scope, none⟩ body = true) (hb : ∀ y ∈ bNames, mg y = none) (hf : Kns P w K mg base k q.fns g.fn) (hg : Kgs P w K mg q.gls g.gl) : FnC P w K mg base (k + 1) f fd ps (run g ⟨N.length, b⟩ ps.length) := by
  obtain ⟨oc, od, dV, kV, doc, pm, an, cdv, ct, osl, rfl, lk, hcd, hDf, hKw⟩ := D.ex
  refine ⟨fun A outer s H ar us vs Q room gds env bnds vals wl want => ?_⟩
  have inK : K.In s.heap := env.mod.kin.keeps fun a u z => (env.bs a u z).1
  have noLim : s.heap.NoLimit := env.mod.nolimit.keeps fun a u z => (env.bs a u z).1
  have kinds : ∀ p ∈ ps.zip us, scope.names.lookup p.1 = some .local ∨ (scope.names.lookup p.1 = some .cell ∧ ((cellsFrom (s.heap.objs.size + 1) scope.names []).lookup p.1).isSome = true) := by
    rintro ⟨y, u⟩ hp
    rcases hS.par y (List.of_mem_zip hp).1 with z | z
    · exact .inl z
    · exact .inr ⟨z, PySem.W.cellsFrom_some _ _ _ (.inl z)⟩
  have dep : A.depth < recursionLimit := by have := room.dp; omega
  refine codeAny_call_function dep (inK _ _ lk) rfl hS.co hS.gen rfl (PySem.W.codeRec_of inK hcd) (bnds _ _ _ _ ?_)
  refine wpAny_newFunctionEnv_cells hS.kind kinds fun en hen s1 ic => ?_
  subst hen
  refine ⟨noLim.keeps ic.toInCall.keep, codeAny_func ?_⟩
  have I0 := inv_start (CX := CX0) (E := E0) hS room.hd env wl vals ic
  have I1 := I0.wish (fun _ _ => False)
  have rm := room.deeper (envOfC qual scope s.heap.objs.size f cdv)
  obtain ⟨t, run1, goal⟩ := body_ok (g := g) (q := q) (k := k) (b := b) (scope := scope) (body := body) (ps := ps)
    (X := (cxOf CX0 P w K mg base N qual scope f cdv A outer s H E0).nox) ⟨hq.symm, hS.nd, rfl, fun _ => rfl, rfl, gds, by have := rm.un; show A.units + 3 + 200 < _; have h2 : A.units + 3 + 16 * k + 200 < _ := this; omega, hb⟩
    ⟨fun j y hy => by
      obtain ⟨d, e1, v, u, e2, e3, e4⟩ := hg.at_ j y hy
      exact ⟨d, v, u, e1, e2, e3, e4⟩, fun j y n hy => by
      obtain ⟨m, e1, a, fd', ps', e2, e3, e4, e5, e6⟩ := hf.at_ j y n hy
      exact ⟨m, a, fd', ps', e1, e2, e3, e4, e5, e6⟩, rm⟩ rfl hc want
  refine wpAny_mono (run1.run [] s1 (L2.start N vs) H _ I1 goal) (fun fl s2 post => ?_) fun _ _ z => z.elim
  have done : ∀ {σ2 : L2.St} {H2 : Hp} {v : V} {u : Value}, Inv ((cxOf CX0 P w K mg base N qual scope f cdv A outer s H E0).nox) [] σ2 H2 s2 → RelV v u → Q v H2 → CE outer P w H s Q u s2 :=
    fun {σ2 H2 v u} J rv z => ⟨v, H2, J.os, J.bare, J.base, J.hok, rv, z⟩
  cases fl with
  | ret u =>
    obtain ⟨v, σ2, H2, J, rv, z⟩ := post
    exact done J rv z
  | next =>
    obtain ⟨σ2, H2, J, z⟩ := post
    exact done (v := V.non) (u := Value.none) J rfl z
  | brk => exact (show False from let ⟨_, _, _, z⟩ := post; z).elim
  | cont => exact (show False from let ⟨_, _, _, z⟩ := post; z).elim
theorem def_K {x qual : Str} {args : Arguments} {body : List Stmt} {scope : Scope} {f : Addr} {fd : FuncData} {N ps : List Str} {g : Cf} {q : Ck} {k n : Nat} {b : List S} (D : FunD K x qual args body scope [] [] f fd) (hm : mg x = some (.ref f)) (hS : FnScope N ps scope) (hq : q.N = N) (hn : ps.length = n)
    (hc : chkSs q b ⟨scope, none⟩ body = true) (hb : ∀ y ∈ bNames, mg y = none) (hf : Kns P w K mg base k q.fns g.fn) (hg : Kgs P w K mg q.gls g.gl) (bd : Binds K fd ps []) : Kn P w K mg base (k + 1) x n (run g ⟨N.length, b⟩ n) := by
  subst hn
  exact ⟨f, fd, ps, hm, D.kp, def_C D hS hq hc hb hf hg, bd, rfl⟩
/-- a def that calls itself, no turn left -/
theorem Kn.no {k : Nat} {x : Str} {n : Nat} {f : Addr} {fd : FuncData} {ps : List Str} (hm : mg x = some (.ref f)) (hk : PySem.W.keepIn K (.ref f) = true) (hb : Binds K fd ps []) (hn : ps.length = n) : Kn P w K mg base k x n (fun _ => M.no) := by
  refine ⟨f, fd, ps, hm, hk, ⟨fun A outer s H ar us vs Q _ _ _ _ _ _ want => ?_⟩, hb, hn⟩
  obtain ⟨W, ds, _, _, _, d, S', e, _⟩ := want
  exact (no_inv (S := W.S) e).elim
end
end Cv

/-! Cv14: the law's call; the module's constants; the head's hook. -/
namespace Cv
open PySem PySem.Spec PyProof.Rows L2

theorem reps_ints {K : Kx} {F : Hp} {io : List Addr} : ∀ ns : List Int, Reps K F io (ns.map V.int) (ns.map D.int)
  | [] => .nil
  | n :: r => .cons (.int n) (reps_ints r)
/-- the law is asked with the script -/
theorem call_C {P : Program} {w : World} {K : PySem.W.Frag} {mg mb : Str → Option Value} {k : Nat} {fa a : Addr} {fd : FuncData} {x : Str} {m : List D → M D} {st : Shared} {its : List Value} {ns : List Int}
    (inK : K.In st.heap) (gns : st.heap.Ns mainGlobals mg) (bns : st.heap.Ns builtinsNs mb) (boots : ∀ y : Str, y ≠ "__name__" → mb y = bootBuiltins y) (free : st.heap.NoLimit) (noG : st.gens = #[])
    (obj : st.heap.get? a = some { cls := .type "list", data := .seq its.toArray }) (nums : IntsAre its ns) (short : ns.length ≤ sizeLine) (room : Room k callerA) (gds : callerA.guards = some [])
    (fn : ∀ base : Heap, K.In base → base.Ns mainGlobals mg → FnC P w K mg base k fa fd [x] m) (bd : ∀ (s : Shared) (u : Value), BindsTo s fd ⟨[u], []⟩ [(x, u)]) (says : ∃ S', m [.lst (ns.map D.int)] [] = some (.bl true, S')) :
    codeAny (model P w) callerA (.call (.ref fa) ⟨[.ref a], []⟩) (fun r s' => r = .ok (.ret (.bool true)) ∧ OldK st.heap s'.heap ∧ s'.os = st.os ∧ AllBare s'.gens) st := by
  have vals := vals_ints nums
  have lens := nums.length
  have main : ∀ H : Hp, (∀ b u, H b = some u → b = a ∧ K.lookup a = none ∧ u = .frz { cls := .type "list", data := .seq its.toArray } (.lst (ns.map V.int))) → LsAt ⟨K, P, w⟩ H a (ns.map V.int) →
      codeAny (model P w) callerA (.call (.ref fa) ⟨[.ref a], []⟩) (fun r s' => r = .ok (.ret (.bool true)) ∧ OldK st.heap s'.heap ∧ s'.os = st.os ∧ AllBare s'.gens) st := by
    intro H only ls
    have heapOk : HOk P w H st.heap := fun b u e => by
      obtain ⟨rfl, _, rfl⟩ := only b u e
      exact ⟨obj, by rw [List.length_map]; exact short, its, _, vals, obj⟩
    have untold : ∀ {b : Addr} {o : Obj} {es : Array DictEntry} {ep : Nat}, st.heap.get? b = some o → o.data = .dict es ep → H b = none := fun {b o es ep} e d => by
      cases q : H b with
      | none => rfl
      | some u =>
        obtain ⟨rfl, _, _⟩ := only b u q
        rw [obj] at e; cases e; cases d
    have nsB : ∀ {b : Addr} {mm : Str → Option Value}, st.heap.Ns b mm → (hidT st.heap H).Ns b mm := fun {b mm} ⟨o, es, ep, e, d, r⟩ => ⟨o, es, ep, hidT_get e (untold e d), d, r⟩
    have inB : K.In (hidT st.heap H) := fun b o e => hidT_get (inK b o e) (by
      cases q : H b with
      | none => rfl
      | some u =>
        obtain ⟨rfl, h2, _⟩ := only b u q
        rw [h2] at e; cases e)
    have modB : Mod K mg (hidT st.heap H) := ⟨inB, nsB gns, ⟨mb, nsB bns, boots⟩, let ⟨mc, h1, h2⟩ := free; ⟨mc, nsB h1, h2⟩⟩
    have env : Env0 P w K mg (hidT st.heap H) callerA [] st H := ⟨rfl, modB, fun b o e => of_hidT e, Nat.le_of_eq (hidT_size _ _), trivial, fun b hb => absurd (show b ∈ ([] : List Addr) from hb) (by simp), heapOk, .of_eq noG⟩
    have want : spC ⟨K, P, w⟩ m [.ref a] H fun v _ => v = .bl true := by
      obtain ⟨S', hs⟩ := says
      refine ⟨⟨H, [], [], H⟩, [.lst (ns.map D.int)], rfl, ⟨fun _ _ e => e, fun n fs e => by simp at e, rfl, List.nodup_nil⟩, .cons (.lst ls (by rw [List.length_map]; exact short) (reps_ints ns)) .nil, .bl true, S', hs, fun W' _ _ _ v r => ?_⟩
      cases r
      rfl
    refine codeAny_mono ((fn _ inB (nsB gns)).go callerA [] st H ⟨[.ref a], []⟩ [.ref a] [.ref a] _ room gds env (bd st (.ref a)) (.cons rfl .nil) rfl want) fun r s' h => ?_
    cases r with
    | error e => exact (show False from h).elim
    | ok fl =>
      cases fl with
      | ret u =>
        obtain ⟨v, H', os, bare, un, _, rv, z⟩ := h
        have z : v = .bl true := z
        subst z
        cases (show u = Value.bool true from rv)
        refine ⟨rfl, OldK.of_keep fun b o e => ?_, os, bare⟩
        cases q : H b with
        | none => exact un.keep b o e q (by intro t; exact absurd (show b ∈ ([] : List Addr) from t) (by simp)) (by simp)
        | some u =>
          obtain ⟨rfl, _, rfl⟩ := only b u q
          have e2 := un.frzs _ _ _ q
          rw [obj] at e; cases e
          exact (‹HOk P w H' s'.heap› _ _ e2).1
      | next => exact (show False from h).elim
      | brk => exact (show False from h).elim
      | cont => exact (show False from h).elim
  cases hk : K.lookup a with
  | some o =>
    have e := inK a o hk
    rw [obj] at e
    cases e
    exact main (fun _ => none) (fun _ _ z => nomatch z) (.inr (.inr ⟨its, _, hk, vals, by rw [lens]; exact short⟩))
  | none =>
    refine main (fun b => if b = a then some (.frz { cls := .type "list", data := .seq its.toArray } (.lst (ns.map V.int))) else none) (fun b u z => ?_) (.inr (.inl ⟨its, _, if_pos rfl⟩))
    have z : (if b = a then some (HO.frz { cls := .type "list", data := .seq its.toArray } (.lst (ns.map V.int))) else none) = some u := z
    by_cases hb : b = a
    · rw [if_pos hb] at z
      exact ⟨hb, hk, (Option.some.inj z).symm⟩
    · rw [if_neg hb] at z; cases z
/-- what the head leaves -/
theorem walk_C {l : PySem.W.OpenLaw} {n k : Nat} {q : Program} {loose : List Str} {XP : (Str → Option Value) → Heap → Prop} {YP : World → Heap → Prop} {d : DefRec} {x : Str} (most : l.most = some n) (line : n ≤ sizeLine) (dfl : d.params.defaults = []) (room : Room k callerA) (gds : callerA.guards = some [])
    (F : ∀ (w : World) (mg : Str → Option Value) (fa : Addr) (h : Heap), YP w h → h.Ns mainGlobals mg → mg d.name = some (.ref fa) → ∃ (K : PySem.W.Frag) (fd : FuncData) (m : List D → M D), K.In h ∧ (∀ (s : Shared) (u : Value), BindsTo s fd ⟨[u], []⟩ [(x, u)]) ∧
      (∀ ns : List Int, ns.length ≤ n → ∃ S', m [.lst (ns.map D.int)] [] = some (.bl true, S')) ∧ ∀ base : Heap, K.In base → base.Ns mainGlobals mg → FnC l.prog w K mg base k fa fd [x] m) :
    PySem.W.WalkO q loose XP YP l.row.toRowW d [] (fun f vs => PySem.call f vs) := by
  refine Att.attach_call most dfl fun w s0 st mg mb fa o pm cd doc a its ns G Y ho hd hcd named obj nums short noG => ?_
  obtain ⟨K, fd, m, inK, bd, says, fn⟩ := F w mg fa _ Y G.T.g named
  exact call_C inK G.T.g G.T.b G.T.builtins G.T.nolimit noG obj nums (Nat.le_trans short line) room gds fn bd (says ns short)

/-! ### constants -/
mutual
/-- the value u, as K has it, is d -/
def isD (K : PySem.W.Frag) : D → Value → Bool
  | .non, .none => true
  | .bl b, .bool c => b == c
  | .int i, .int j _ => decide (i = j)
  | .str s, .str z _ => decide (s = z)
  | .tup ds, .ref a => (match K.lookup a with
    | some ⟨.type c, none, .seq its _, _⟩ => decide (c = "tuple") && decide (its.size ≤ sizeLine) && areD K ds its.toList
    | _ => false)
  | .lst ds, .ref a => (match K.lookup a with
    | some ⟨.type c, none, .seq its _, sl⟩ => decide (c = "list") && decide (its.size ≤ sizeLine) && sl.isEmpty && areD K ds its.toList
    | _ => false)
  | _, _ => false
def areD (K : PySem.W.Frag) : List D → List Value → Bool
  | [], [] => true
  | d :: ds, u :: us => isD K d u && areD K ds us
  | _, _ => false
end

mutual
theorem isD_ok {K : Kx} : ∀ {d : D} {u : Value}, isD K d u = true → ∃ v, RelV v u ∧ ∀ F io, Rep K F io v d
  | .non, .none, _ => ⟨.non, rfl, fun _ _ => .non⟩
  | .bl b, .bool c, h => by
    obtain rfl : b = c := eq_of_beq h
    exact ⟨.bl b, rfl, fun _ _ => .bl b⟩
  | .int i, .int j t, h => by
    obtain rfl : i = j := of_decide_eq_true h
    exact ⟨.int i, ⟨t, rfl⟩, fun _ _ => .int i⟩
  | .str s, .str z t, h => by
    obtain rfl : s = z := of_decide_eq_true h
    exact ⟨.str s, ⟨t, rfl⟩, fun _ _ => .str s⟩
  | .tup ds, .ref a, h => by
    have h : (match K.fr.lookup a with
      | some ⟨.type c, none, .seq its _, _⟩ => decide (c = "tuple") && decide (its.size ≤ sizeLine) && areD K ds its.toList
      | _ => false) = true := h
    split at h
    · rename_i c its n sl q
      simp only [Bool.and_eq_true, decide_eq_true_eq] at h
      obtain ⟨⟨rfl, h2⟩, h3⟩ := h
      obtain ⟨vs, r1, r2⟩ := areD_ok h3
      have l1 := r1.length
      refine ⟨.ref a, rfl, fun F io => .tup (.inr ⟨_, its, n, q, rfl, rfl, rfl, h2, r1⟩) ?_ (r2 F io)⟩
      rw [l1, Array.length_toList]; exact h2
    · cases h
  | .lst ds, .ref a, h => by
    have h : (match K.fr.lookup a with
      | some ⟨.type c, none, .seq its _, sl⟩ => decide (c = "list") && decide (its.size ≤ sizeLine) && sl.isEmpty && areD K ds its.toList
      | _ => false) = true := h
    split at h
    · rename_i c its n sl q
      simp only [Bool.and_eq_true, decide_eq_true_eq] at h
      obtain ⟨⟨⟨rfl, h2⟩, h4⟩, h3⟩ := h
      obtain ⟨vs, r1, r2⟩ := areD_ok h3
      have l1 := r1.length
      have l2 : vs.length ≤ sizeLine := by rw [l1, Array.length_toList]; exact h2
      have e4 : sl = #[] := Array.isEmpty_iff.mp h4
      subst e4
      exact ⟨.ref a, rfl, fun F io => .lst (.inr (.inr ⟨its.toList, n, by rw [q], r1, by rw [Array.length_toList]; exact h2⟩)) l2 (r2 F io)⟩
    · cases h
  | .non, .bool _, h => nomatch h
theorem areD_ok {K : Kx} : ∀ {ds : List D} {us : List Value}, areD K ds us = true → ∃ vs, Vals vs us ∧ ∀ F io, Reps K F io vs ds
  | [], [], _ => ⟨[], .nil, fun _ _ => .nil⟩
  | [], _ :: _, h => nomatch h
  | _ :: _, [], h => nomatch h
  | d :: ds, u :: us, h => by
    obtain ⟨h1, h2⟩ := Bool.and_eq_true_iff.mp (show (isD K d u && areD K ds us) = true from h)
    obtain ⟨v, a1, a2⟩ := isD_ok h1
    obtain ⟨vs, b1, b2⟩ := areD_ok h2
    exact ⟨v :: vs, .cons a1 b1, fun F io => .cons (a2 F io) (b2 F io)⟩
end
end Cv

/-! Cv15: the head's facts. -/
namespace Cv
open PySem PySem.Spec PyProof.Rows L2

def csB (cs : List (Str × D)) (K : PySem.W.Frag) : Bool := cs.all fun p => match PySem.W.nsIn K mainGlobals p.1 with
  | some (some u) => isD K p.2 u
  | _ => false
abbrev AlC : Type := He.AlD × Bool
def obsC (fa : List He.Fa) (fn : List He.DefD) (cs : List (Str × D)) (K : PySem.W.Frag) : AlC := (He.obsD fa fn K, csB cs K)
def obsCG (n : Nat) (fa : List He.Fa) (fn : List He.DefD) (cs : List (Str × D)) (at_ : Addr → Option Obj) : AlC := obsC fa fn cs (He.frG at_ (He.asD at_ n))
structure SaysC (fa : List He.Fa) (fn : List He.DefD) (cs : List (Str × D)) (K : PySem.W.Frag) : Prop where
  d : He.SaysD fa fn K
  c : csB cs K = true
def hookC (n : Nat) (fa : List He.Fa) (fn : List He.DefD) (cs : List (Str × D)) : PySem.W.Hook where
  α := AlC
  obs := fun s => obsCG n fa fn cs s.heap.get?
  val := fun _ => (He.valD fn, true)
  says := fun _ h => ∃ K : PySem.W.Frag, K.In h ∧ SaysC fa fn cs K
  of := fun _ _ e => ⟨_, He.frG_in, congrArg Prod.fst e, congrArg Prod.snd e⟩
  keeps := fun _ _ _ ⟨K, hK, c⟩ k => ⟨K, PySem.W.Frag.In.keeps hK k, c⟩
theorem obsCG_eq {n : Nat} {fa : List He.Fa} {fn : List He.DefD} {cs : List (Str × D)} {at_ : Addr → Option Obj} {s : Shared} (h : ∀ a, at_ a = s.heap.get? a) : obsCG n fa fn cs at_ = (hookC n fa fn cs).obs s := by
  have e : at_ = s.heap.get? := funext h
  subst e
  rfl
section
variable {fa : List He.Fa} {fn : List He.DefD} {cs : List (Str × D)} {K : PySem.W.Frag} {h : Heap} {mg : Str → Option Value}
theorem free_all {r : List He.Fa} (X : K.In h) (G : h.Ns mainGlobals mg) (c : SaysC (bNames.map He.Fa.free ++ r) fn cs K) : ∀ y ∈ bNames, mg y = none := by
  intro y hy
  obtain ⟨i, hi, e⟩ := List.getElem_of_mem hy
  refine He.free_ok X G (x := y) (c.d.fact i (f := .free y) ?_)
  rw [List.getElem?_append_left (by rw [List.length_map]; exact hi), List.getElem?_map, List.getElem?_eq_getElem hi, e]
  rfl
theorem kg_at (X : K.In h) (G : h.Ns mainGlobals mg) (c : SaysC fa fn cs K) (i : Nat) {x : Str} {d : D} {P : Program} {w : World} (e : cs[i]? = some (x, d)) : Kg P w K mg x d := by
  have h1 := List.all_eq_true.mp c.c (x, d) (List.mem_of_getElem? e)
  have h1 : (match PySem.W.nsIn K mainGlobals x with
    | some (some u) => isD K d u
    | _ => false) = true := h1
  split at h1
  · rename_i u hu
    obtain ⟨v, h2, h3⟩ := isD_ok (K := ⟨K, P, w⟩) h1
    exact ⟨v, u, PySem.W.mg_of X G hu, h2, h3⟩
  · cases h1
end
end Cv

/-! Cv16: reckoning with the evaluator, no program in sight. -/
namespace Cv
open PySem
section
variable {α β : Type} {g : Cf} {en : En} {S : Sto}
@[simp] theorem x_ret (a : α) : M.ret a S = some (a, S) := rfl
@[simp] theorem x_bnd (m : M α) (f : α → M β) : M.bnd m f S = match m S with
  | none => none
  | some (a, S1) => f a S1 := rfl
@[simp] theorem x_ite {c : Prop} [Decidable c] (a b : M α) : (if c then a else b) S = if c then a S else b S := by split <;> rfl
@[simp] theorem x_opt (a : α) : M.opt (some a) S = some (a, S) := rfl
@[simp] theorem x_isI (i : Int) : isI (.int i) S = some (i, S) := rfl
@[simp] theorem x_isB (i : Bool) : isB (.bl i) S = some (i, S) := rfl
@[simp] theorem x_isO (i : Nat) : isO (.obj i) S = some (i, S) := rfl
@[simp] theorem x_isL (i : List D) : isL (.lst i) S = some (i, S) := rfl
@[simp] theorem x_var (i : Nat) : ev g (.var i) en = M.opt (getV en i) := by rw [ev]
@[simp] theorem x_glo (i : Nat) : ev g (.glo i) en = M.opt g.gl[i]? := by rw [ev]
@[simp] theorem x_int (i : Int) : ev g (.int i) en S = some (.int i, S) := by rw [ev]; rfl
@[simp] theorem x_str (i : Str) : ev g (.str i) en S = some (.str i, S) := by rw [ev]; rfl
@[simp] theorem x_bl (i : Bool) : ev g (.bl i) en S = some (.bl i, S) := by rw [ev]; rfl
@[simp] theorem x_non : ev g .non en S = some (.non, S) := by rw [ev]; rfl
@[simp] theorem g_no (r : En) : getV (.no :: r) 0 = none := rfl
@[simp] theorem g_val (d : D) (r : En) : getV (.val d :: r) 0 = some d := rfl
@[simp] theorem g_own (d : Ow) (r : En) : getV (.own d :: r) 0 = none := rfl
@[simp] theorem g_suc (x : Sl) (r : En) (i : Nat) : getV (x :: r) (i + 1) = getV r i := by
  show (match (x :: r)[i + 1]? with
    | some (.val d) => some d
    | _ => none) = _
  rw [List.getElem?_cons_succ]
  rfl
theorem atD_nat (xs : List α) (n : Nat) : atD xs (n : Int) = xs[n]? := by
  cases e : xs[n]? with
  | some v => exact L2.atI_nat e
  | none =>
    have h := List.getElem?_eq_none_iff.mp e
    show (L2.ixN xs.length (n : Int)).bind (fun j => xs[j]?) = none
    unfold L2.ixN
    rw [if_pos (by omega), if_neg (by omega)]
    rfl
@[simp] theorem at_0 (xs : List α) : atD xs 0 = xs[0]? := atD_nat xs 0
@[simp] theorem at_1 (xs : List α) : atD xs 1 = xs[1]? := atD_nat xs 1
@[simp] theorem at_2 (xs : List α) : atD xs 2 = xs[2]? := atD_nat xs 2
@[simp] theorem at_3 (xs : List α) : atD xs 3 = xs[3]? := atD_nat xs 3
@[simp] theorem at_4 (xs : List α) : atD xs 4 = xs[4]? := atD_nat xs 4
theorem at_i {xs : List α} {i : Int} {a : α} (h0 : 0 ≤ i) (h : xs[i.toNat]? = some a) : atD xs i = some a := by
  have e : i = ((i.toNat : Nat) : Int) := by omega
  rw [e, atD_nat]; exact h
@[simp] theorem ix_tup (xs : List D) (i : Int) : idxD (.tup xs) (.int i) = atD xs i := rfl
@[simp] theorem ix_lst (xs : List D) (i : Int) : idxD (.lst xs) (.int i) = atD xs i := rfl
@[simp] theorem b_add (a b : Int) : binD .add (.int a) (.int b) = some (.int (a + b)) := rfl
@[simp] theorem b_sub (a b : Int) : binD .sub (.int a) (.int b) = some (.int (a - b)) := rfl
@[simp] theorem b_mul (a b : Int) : binD .mul (.int a) (.int b) = if sm a && sm b then some (.int (a * b)) else none := rfl
@[simp] theorem b_fdiv (a b : Int) : binD .fdiv (.int a) (.int b) = if decide (b ≠ 0) && sm b then some (.int (a.fdiv b)) else none := rfl
@[simp] theorem b_mod (a b : Int) : binD .mod (.int a) (.int b) = if b ≠ 0 then some (.int (a.fmod b)) else none := rfl
@[simp] theorem b_pow (a b : Int) : binD .pow (.int a) (.int b) = if decide (0 ≤ b) && decide (b ≤ 1000) && decide (a.natAbs < 2 ^ 64) then some (.int (a ^ b.toNat)) else none := rfl
@[simp] theorem b_addL (a b : List D) : binD .add (.lst a) (.lst b) = if a.length + b.length ≤ sizeLine then some (.lst (a ++ b)) else none := rfl
@[simp] theorem b_addT (a b : List D) : binD .add (.tup a) (.tup b) = if a.length + b.length ≤ sizeLine then some (.tup (a ++ b)) else none := rfl
@[simp] theorem c_lt (a b : Int) : cmpD .lt (.int a) (.int b) = some (decide (a < b)) := rfl
@[simp] theorem c_le (a b : Int) : cmpD .le (.int a) (.int b) = some (decide (a ≤ b)) := rfl
@[simp] theorem c_gt (a b : Int) : cmpD .gt (.int a) (.int b) = some (decide (b < a)) := rfl
@[simp] theorem c_ge (a b : Int) : cmpD .ge (.int a) (.int b) = some (decide (b ≤ a)) := rfl
end
theorem shp_int (a : Int) : shp (.int a) = true := rfl
@[simp] theorem c_eq (a b : Int) : cmpD .eq (.int a) (.int b) = some (a == b) := by
  show (if shp (.int a) && shp (.int b) then some (PyData.eqv (.int a) (.int b)) else none) = _
  rw [shp_int, shp_int]
  simp [PyData.eqv]
@[simp] theorem c_ne (a b : Int) : cmpD .ne (.int a) (.int b) = some (!(a == b)) := by
  show (if shp (.int a) && shp (.int b) then some (!PyData.eqv (.int a) (.int b)) else none) = _
  rw [shp_int, shp_int]
  simp [PyData.eqv]
theorem sm_of {i : Int} (h : i.natAbs < 2 ^ 4000) : sm i = true := by
  unfold sm
  rw [decide_eq_true_eq]
  by_cases h0 : i.natAbs = 0
  · rw [h0]; decide
  · exact Nat.lt_trans ((Nat.log2_lt h0).mpr h) (by decide)

@[simp] theorem f_lenL (xs : List D) : b1D .len (.lst xs) = some (.int xs.length) := rfl
@[simp] theorem f_lenT (xs : List D) : b1D .len (.tup xs) = some (.int xs.length) := rfl
@[simp] theorem f_listL (xs : List D) : b1D .list (.lst xs) = some (.lst xs) := rfl
@[simp] theorem f_listT (xs : List D) : b1D .list (.tup xs) = some (.lst xs) := rfl
@[simp] theorem f_tupL (xs : List D) : b1D .tuple (.lst xs) = some (.tup xs) := rfl
@[simp] theorem f_tupT (xs : List D) : b1D .tuple (.tup xs) = some (.tup xs) := rfl
@[simp] theorem f_abs (i : Int) : b1D .abs (.int i) = some (.int (if i < 0 then -i else i)) := rfl
@[simp] theorem c_eqS (a b : Str) : cmpD .eq (.str a) (.str b) = some (a == b) := rfl
@[simp] theorem c_neS (a b : Str) : cmpD .ne (.str a) (.str b) = some (!(a == b)) := rfl
/-! ### repr -/
mutual
/-- leaves that are not too long -/
def D.lf : D → Bool
  | .non => true
  | .bl _ => true
  | .int i => decide (i.natAbs.log2 < 1920)
  | .str s => s.cps.toList.all fun c => decide (c < 16 ^ 8)
  | .tup xs => D.lfs xs
  | .lst xs => D.lfs xs
  | .dct _ _ => false
  | .itv _ _ => false
  | .set _ => false
  | .obj _ => false
  | .fn _ => false
def D.lfs : List D → Bool
  | [] => true
  | x :: xs => D.lf x && D.lfs xs
end
mutual
theorem lf_ok : ∀ {d : D}, d.lf = true → d.pl = true ∧ d.py.showable = true ∧ d.py.leavesShort 1922 = true
  | .non, _ => ⟨rfl, rfl, rfl⟩
  | .bl _, _ => ⟨rfl, rfl, rfl⟩
  | .int i, h => by
    have h : i.natAbs.log2 < 1920 := of_decide_eq_true h
    refine ⟨rfl, decide_eq_true h, ?_⟩
    have e := int_text_length_le (a := i) (k := 1920) (by decide) h
    show decide ((PyData.shown (.int i)).length ≤ 1922) = true
    rw [decide_eq_true_eq]
    show (Str.ofString (toString i)).length ≤ _
    rw [ofString_length]
    omega
  | .str s, h => ⟨rfl, rfl, h⟩
  | .tup xs, h => by
    obtain ⟨a, b, c⟩ := lfs_ok (ds := xs) h
    exact ⟨a, b, c⟩
  | .lst xs, h => by
    obtain ⟨a, b, c⟩ := lfs_ok (ds := xs) h
    exact ⟨a, b, c⟩
theorem lfs_ok : ∀ {ds : List D}, D.lfs ds = true → D.pls ds = true ∧ PyData.showableAll (D.pys ds) = true ∧ PyData.leavesShortAll 1922 (D.pys ds) = true
  | [], _ => ⟨rfl, rfl, rfl⟩
  | d :: ds, h => by
    have h := Bool.and_eq_true_iff.mp (show (d.lf && D.lfs ds) = true from h)
    obtain ⟨a, b, c⟩ := lf_ok h.1
    obtain ⟨a2, b2, c2⟩ := lfs_ok h.2
    exact ⟨Bool.and_eq_true_iff.mpr ⟨a, a2⟩, Bool.and_eq_true_iff.mpr ⟨b, b2⟩, Bool.and_eq_true_iff.mpr ⟨c, c2⟩⟩
end
theorem repr_ok {d : D} (h : d.lf = true) (hd : d.py.depth ≤ 100) (hb : d.py.bulk ≤ 8000) : b1D .repr d = some (.str d.py.shown) := by
  obtain ⟨a, b, c⟩ := lf_ok h
  have hs := PyData.shown_le_bulk 1922 (by decide) d.py c
  have hz : d.py.shown.length ≤ sizeLine := by
    rw [sizeLine_eq]
    have : (1922 + 2) * d.py.bulk ≤ 1924 * 8000 := Nat.mul_le_mul_left _ hb
    omega
  show (if reprOk d then some (D.str d.py.shown) else none) = _
  rw [if_pos]
  unfold reprOk
  rw [a, b, decide_eq_true hd, decide_eq_true hz]
  rfl
theorem lf_int {i : Int} (h : i.natAbs < 2 ^ 1900) : (D.int i).lf = true := by
  show decide (i.natAbs.log2 < 1920) = true
  rw [decide_eq_true_eq]
  by_cases h0 : i.natAbs = 0
  · rw [h0]; decide
  · exact Nat.lt_trans ((Nat.log2_lt h0).mpr h) (by decide)
theorem sts_go {g : Cf} {s : S} {r : List S} {en en1 : En} {S0 S1 : Sto} {o : Option ((Fl × En) × Sto)} (h1 : st g s en S0 = some ((.nx, en1), S1)) (h2 : sts g r en1 S1 = o) : sts g (s :: r) en S0 = o := by
  rw [sts, x_bnd, h1]
  exact h2
theorem sts_end {g : Cf} {en : En} {S0 : Sto} : sts g [] en S0 = some ((.nx, en), S0) := by rw [sts]; rfl
theorem sts_ret {g : Cf} {s : S} {r : List S} {en en1 : En} {d : D} {S0 S1 : Sto} (h1 : st g s en S0 = some ((.ret d, en1), S1)) : sts g (s :: r) en S0 = some ((.ret d, en1), S1) := by
  rw [sts, x_bnd, h1]
  rfl
theorem sts_fin {g : Cf} {e : E} {r : List S} {en : En} {d : D} {S0 S1 : Sto} (h1 : ev g e en S0 = some (d, S1)) : sts g (.ret e :: r) en S0 = some ((.ret d, en), S1) := by
  refine sts_ret ?_
  rw [st, x_bnd, h1]
  rfl
theorem st_set {g : Cf} {t : Tg} {e : E} {en en1 : En} {d : D} {S0 S1 : Sto} (h1 : ev g e en S0 = some (d, S1)) (h2 : asg t d en = some en1) : st g (.set t e) en S0 = some ((.nx, en1), S1) := by
  rw [st, x_bnd, h1]
  show M.bnd (M.opt (asg t d en)) _ S1 = _
  rw [h2]
  rfl
theorem run_go {g : Cf} {n k : Nat} {b : List S} {ds : List D} {en : En} {d : D} {S0 S1 : Sto} (hk : ds.length = k) (h : sts g b (startE n ds) S0 = some ((.ret d, en), S1)) : run g ⟨n, b⟩ k ds S0 = some (d, S1) := by
  unfold run
  rw [if_pos hk, x_bnd, h]
  rfl
theorem st_ifT {g : Cf} {c : E} {a b : List S} {en : En} {S0 S1 : Sto} {o : Option ((Fl × En) × Sto)} (h : evt g c en S0 = some (true, S1)) (h2 : sts g a en S1 = o) : st g (.ife c a b) en S0 = o := by
  rw [st, x_bnd, h]
  exact h2
theorem st_ifF {g : Cf} {c : E} {a b : List S} {en : En} {S0 S1 : Sto} {o : Option ((Fl × En) × Sto)} (h : evt g c en S0 = some (false, S1)) (h2 : sts g b en S1 = o) : st g (.ife c a b) en S0 = o := by
  rw [st, x_bnd, h]
  exact h2
theorem ev_bin {g : Cf} {o : Bo} {a b : E} {en : En} {x y z : D} {S0 S1 S2 : Sto} (h1 : ev g a en S0 = some (x, S1)) (h2 : ev g b en S1 = some (y, S2)) (h3 : binD o x y = some z) : ev g (.bin o a b) en S0 = some (z, S2) := by
  rw [ev, x_bnd, h1]
  dsimp only
  rw [x_bnd, h2]
  dsimp only
  rw [h3]
  rfl
theorem ev_tup1 {g : Cf} {a : E} {en : En} {x : D} {S0 S1 : Sto} (h1 : ev g a en S0 = some (x, S1)) : ev g (.tup (.c a .n)) en S0 = some (.tup [x], S1) := by
  rw [ev, x_bnd, evs, x_bnd, h1]
  dsimp only
  rw [x_bnd, evs]
  rfl
theorem cat_t {xs ys : List D} (h : xs.length + ys.length ≤ sizeLine) : binD .add (.tup xs) (.tup ys) = some (.tup (xs ++ ys)) := if_pos h
theorem st_whl {g : Cf} {c : E} {b : List S} {en : En} : st g (.whl c b) en = whlM (fun en1 => evt g c en1) (fun en1 => sts g b en1) FUEL en := by rw [st]
theorem st_frr {g : Cf} {t : Tg} {it : Wi} {b : List S} {en : En} {S0 S1 : Sto} {ds : List D} {o : Option ((Fl × En) × Sto)} (h : evi g it en S0 = some (ds, S1)) (h2 : forM (fun d en1 => M.opt (asg t d en1)) (fun en1 => sts g b en1) ds en S1 = o) : st g (.frr t it b) en S0 = o := by
  rw [st, x_bnd, h]
  exact h2
theorem whl_go {c : En → M Bool} {b : En → M (Fl × En)} {n : Nat} {en en1 : En} {S0 S1 S2 : Sto} {o : Option ((Fl × En) × Sto)} (h1 : c en S0 = some (true, S1)) (h2 : b en S1 = some ((.nx, en1), S2)) (h3 : whlM c b n en1 S2 = o) : whlM c b (n + 1) en S0 = o := by
  rw [whlM, x_bnd, h1]
  show M.bnd (b en) _ S1 = o
  rw [x_bnd, h2]
  exact h3
theorem whl_end {c : En → M Bool} {b : En → M (Fl × En)} {n : Nat} {en : En} {S0 S1 : Sto} (h1 : c en S0 = some (false, S1)) : whlM c b (n + 1) en S0 = some ((.nx, en), S1) := by
  rw [whlM, x_bnd, h1]
  rfl
theorem for_nil {a : D → En → M En} {b : En → M (Fl × En)} {en : En} {S0 : Sto} : forM a b [] en S0 = some ((.nx, en), S0) := rfl
theorem for_go {a : D → En → M En} {b : En → M (Fl × En)} {x : D} {xs : List D} {en en1 en2 : En} {S0 S1 S2 : Sto} {o : Option ((Fl × En) × Sto)} (h1 : a x en S0 = some (en1, S1)) (h2 : b en1 S1 = some ((.nx, en2), S2)) (h3 : forM a b xs en2 S2 = o) : forM a b (x :: xs) en S0 = o := by
  rw [forM, x_bnd, h1]
  show M.bnd (b en1) _ S1 = o
  rw [x_bnd, h2]
  exact h3
theorem lt_fuel {n : Nat} (h : n < 2 ^ 4000) : n < FUEL := Nat.lt_of_lt_of_le h (Nat.pow_le_pow_right (by decide) (by decide))
/-- a loop with an invariant, by the turn -/
theorem for_inv {a : D → En → M En} {b : En → M (Fl × En)} (I : Nat → En → Sto → Prop) (N : Nat) (hb : ∀ (x : D) (n : Nat) (en : En) (S0 : Sto), n < N → I n en S0 → ∃ en1 S1 en2 S2, a x en S0 = some (en1, S1) ∧ b en1 S1 = some ((.nx, en2), S2) ∧ I (n + 1) en2 S2) :
    ∀ (xs : List D) (n : Nat) (en : En) (S0 : Sto), n + xs.length ≤ N → I n en S0 → ∃ en' S', forM a b xs en S0 = some ((.nx, en'), S') ∧ I (n + xs.length) en' S'
  | [], n, en, S0, _, h => ⟨en, S0, rfl, h⟩
  | x :: xs, n, en, S0, hn, h => by
    rw [List.length_cons] at hn
    obtain ⟨en1, S1, en2, S2, e1, e2, h2⟩ := hb x n en S0 (by omega) h
    obtain ⟨en', S', e3, h3⟩ := for_inv I N hb xs (n + 1) en2 S2 (by omega) h2
    refine ⟨en', S', for_go e1 e2 e3, ?_⟩
    rw [List.length_cons, show n + (xs.length + 1) = n + 1 + xs.length by omega]
    exact h3
/-- a loop over the items, the done ones told -/
theorem for_items {α : Type} {f : α → D} {a : D → En → M En} {b : En → M (Fl × En)} {ps : List α} (I : List α → En → Sto → Prop) (hb : ∀ (l : List α) (x : α) (r : List α) (en : En) (S0 : Sto), ps = l ++ x :: r → I l en S0 → ∃ en1 S1 en2 S2, a (f x) en S0 = some (en1, S1) ∧ b en1 S1 = some ((.nx, en2), S2) ∧ I (l ++ [x]) en2 S2) :
    ∀ (xs l : List α) (en : En) (S0 : Sto), ps = l ++ xs → I l en S0 → ∃ en' S', forM a b (xs.map f) en S0 = some ((.nx, en'), S') ∧ I ps en' S'
  | [], l, en, S0, hp, h => ⟨en, S0, rfl, by rw [hp, List.append_nil]; exact h⟩
  | x :: xs, l, en, S0, hp, h => by
    obtain ⟨en1, S1, en2, S2, e1, e2, h2⟩ := hb l x xs en S0 hp h
    obtain ⟨en', S', e3, h3⟩ := for_items I hb xs (l ++ [x]) en2 S2 (by rw [hp]; simp) h2
    exact ⟨en', S', for_go e1 e2 e3, h3⟩
theorem lcm_nil {t : D → M Bool} {f : D → M D} {S0 : Sto} : lcM t f [] S0 = some ([], S0) := rfl
theorem lcm_go {t : D → M Bool} {f : D → M D} {x y : D} {xs ys : List D} {S0 S1 S2 S3 : Sto} (h1 : t x S0 = some (true, S1)) (h2 : f x S1 = some (y, S2)) (h3 : lcM t f xs S2 = some (ys, S3)) : lcM t f (x :: xs) S0 = some (y :: ys, S3) := by
  rw [lcM, x_bnd, h1]
  show M.bnd (f x) _ S1 = _
  rw [x_bnd, h2]
  show M.bnd (lcM t f xs) _ S2 = _
  rw [x_bnd, h3]
  rfl
theorem lcm_skip {t : D → M Bool} {f : D → M D} {x : D} {xs : List D} {S0 S1 : Sto} {o : Option (List D × Sto)} (h1 : t x S0 = some (false, S1)) (h3 : lcM t f xs S1 = o) : lcM t f (x :: xs) S0 = o := by
  rw [lcM, x_bnd, h1]
  exact h3
/-- a comprehension over the items, one way for each -/
theorem lcm_map {α β : Type} {f : α → D} {h : β → D} {t : D → M Bool} {el : D → M D} {S0 : Sto} (k : α → β) : ∀ (xs : List α), (∀ x ∈ xs, t (f x) S0 = some (true, S0) ∧ el (f x) S0 = some (h (k x), S0)) → lcM t el (xs.map f) S0 = some (xs.map fun x => h (k x), S0)
  | [], _ => rfl
  | x :: xs, hp => by
    obtain ⟨h1, h2⟩ := hp x List.mem_cons_self
    exact lcm_go h1 h2 (lcm_map k xs fun y hy => hp y (List.mem_cons_of_mem _ hy))
theorem ints_map {α : Type} (k : α → Int) : ∀ xs : List α, intsD (xs.map fun x => D.int (k x)) = some (xs.map k)
  | [] => rfl
  | x :: xs => by
    show (intsD (xs.map fun x => D.int (k x))).map (k x :: ·) = _
    rw [ints_map k xs]
    rfl
theorem lfs_map {α : Type} {f : α → D} : ∀ {xs : List α}, (∀ x ∈ xs, (f x).lf = true) → D.lfs (xs.map f) = true
  | [], _ => rfl
  | x :: xs, h => Bool.and_eq_true_iff.mpr ⟨h x List.mem_cons_self, lfs_map fun y hy => h y (List.mem_cons_of_mem _ hy)⟩
theorem dep_map {α : Type} {f : α → D} {n : Nat} : ∀ {xs : List α}, (∀ x ∈ xs, (f x).py.depth ≤ n) → PyData.depthAll (D.pys (xs.map f)) ≤ n
  | [], _ => Nat.zero_le _
  | x :: xs, h => Nat.max_le.mpr ⟨h x List.mem_cons_self, dep_map fun y hy => h y (List.mem_cons_of_mem _ hy)⟩
theorem bulk_map {α : Type} {f : α → D} {n : Nat} : ∀ {xs : List α}, (∀ x ∈ xs, (f x).py.bulk ≤ n) → PyData.bulkAll (D.pys (xs.map f)) ≤ xs.length * (n + 1)
  | [], _ => Nat.zero_le _
  | x :: xs, h => by
    have h1 := h x List.mem_cons_self
    have h2 := bulk_map (xs := xs) fun y hy => h y (List.mem_cons_of_mem _ hy)
    show (f x).py.bulk + 1 + PyData.bulkAll (D.pys (xs.map f)) ≤ _
    rw [List.length_cons, Nat.add_mul]
    omega
/-! ### fractions -/
def lw (x y : Int) : Int × Int := (x.fdiv ((Nat.gcd x.natAbs y.natAbs : Nat) : Int), y.fdiv ((Nat.gcd x.natAbs y.natAbs : Nat) : Int))
def fr (p : Int × Int) : D := .tup [.int p.1, .int p.2]
end Cv

/-! Cv17: pieces that several laws share: the tap, lowest terms, ratio. -/
namespace Cv
open PySem
def c0 : Cf := ⟨[], []⟩
def tk_b : List S := [.set (.nm 2) (.bin .add (.fld (.var 0) "calls") (.int 1)), .setf (.var 0) "calls" (.var 2), .ife (.cmp .gt (.fld (.var 0) "rest") (.int 0)) [.set (.nm 3) (.bin .mod (.fld (.var 0) "rest") (.var 1)), .setf (.var 0) "rest" (.bin .fdiv (.fld (.var 0) "rest") (.var 1)), .ret (.var 3)] [], .set (.nm 4) (.fld (.var 0) "spot"), .setf (.var 0) "spot" (.bin .add (.var 4) (.int 1)), .set (.nm 5) (.fld (.var 0) "cells"), .set (.nm 6) (.ife (.cmp .gt (.b1 .len (.var 5)) (.int 0)) (.idx (.var 5) (.bin .mod (.var 4) (.b1 .len (.var 5)))) (.int 5)), .ife (.and (.cmp .lt (.var 4) (.b1 .len (.var 5))) (.cmp .ge (.var 6) (.bin .pow (.int 10) (.int 18)))) [.setf (.var 0) "rest" (.bin .fdiv (.var 6) (.var 1)), .ret (.bin .mod (.var 6) (.var 1))] [], .set (.nm 7) (.bin .mod (.bin .pow (.bin .add (.bin .add (.bin .mod (.var 6) (.int 2147483629)) (.bin .mul (.int 6007) (.var 2))) (.int 11)) (.int 5)) (.int 2147483647)), .ret (.bin .mod (.bin .fdiv (.bin .mod (.bin .pow (.bin .add (.var 7) (.bin .mul (.bin .mul (.int 4099) (.var 2)) (.var 2))) (.int 5)) (.int 2147483587)) (.int 32)) (.var 1))]
def tk_m : List D → M D := run c0 ⟨8, tk_b⟩ 2
def lo_b1 : List S := [.par 2 3 (.bin .mod (.var 3) (.var 2)) (.var 2)]
def lo_b : List S := [.par 2 3 (.b1 .abs (.var 0)) (.var 1), .whl (.cmp .gt (.var 2) (.int 0)) lo_b1, .ret (.tup (.c (.bin .fdiv (.var 0) (.var 3)) (.c (.bin .fdiv (.var 1) (.var 3)) .n)))]
def lo_m : List D → M D := run c0 ⟨4, lo_b⟩ 2
def ra_b1 : List S := [.par 2 3 (.bin .mod (.var 3) (.var 2)) (.var 2)]
def ra_b : List S := [.par 2 3 (.b1 .abs (.var 0)) (.b1 .abs (.var 1)), .whl (.cmp .gt (.var 2) (.int 0)) ra_b1, .set (.nm 4) (.ife (.cmp .gt (.var 1) (.int 0)) (.var 3) (.bin .sub (.int 0) (.var 3))), .ret (.tup (.c (.bin .fdiv (.var 0) (.var 4)) (.c (.bin .fdiv (.var 1) (.var 4)) .n)))]
def ra_m : List D → M D := run c0 ⟨5, ra_b⟩ 2
/-! ### the tap -/
def tap (cs : List Int) (s r c : Int) : List (Str × D) := [("cells", .lst (cs.map .int)), ("spot", .int s), ("rest", .int r), ("calls", .int c)]
section
variable {cs : List Int} {s r c x : Int}
theorem l_cells : look "cells" (tap cs s r c) = some (.lst (cs.map .int)) := rfl
theorem l_spot : look "spot" (tap cs s r c) = some (.int s) := rfl
theorem l_rest : look "rest" (tap cs s r c) = some (.int r) := rfl
theorem l_calls : look "calls" (tap cs s r c) = some (.int c) := rfl
theorem p_spot : putF "spot" (.int x) (tap cs s r c) = tap cs x r c := rfl
theorem p_rest : putF "rest" (.int x) (tap cs s r c) = tap cs s x c := rfl
theorem p_calls : putF "calls" (.int x) (tap cs s r c) = tap cs s r x := rfl
theorem fmod_pos {a b : Int} (h : 0 < b) : 0 ≤ a.fmod b ∧ a.fmod b < b := by
  rw [Int.fmod_eq_emod_of_nonneg _ (by omega)]
  exact ⟨Int.emod_nonneg _ (by omega), Int.emod_lt_of_pos _ h⟩
theorem fdiv_pos {a b : Int} (h : 0 < b) (ha : 0 ≤ a) : 0 ≤ a.fdiv b := by
  rw [Int.fdiv_eq_ediv_of_nonneg _ (by omega)]
  exact Int.ediv_nonneg ha (by omega)
theorem take_rest {many : Int} (h1 : 0 < many) (h2 : many < 2 ^ 200) (h : 0 < r) : tk_m [.obj 0, .int many] [.fl (tap cs s r c)] = some (.int (r.fmod many), [.fl (tap cs s (r.fdiv many) (c + 1))]) := by
  have e1 : many ≠ 0 := by omega
  have e2 : sm many = true := sm_of (by have : many.natAbs < 2 ^ 200 := by omega
                                        exact Nat.lt_trans this (by decide))
  simp [tk_m, run, tk_b, sts, st, ev, evt, evs, startE, asg, setV, getO, setO, l_cells, l_spot, l_rest, l_calls, p_spot, p_rest, p_calls, h, e1, e2]
theorem sm_lit {i : Int} (h : i.natAbs < 2 ^ 200) : sm i = true := sm_of (Nat.lt_trans h (by decide))
theorem take_big {many : Int} {x : Int} (h1 : 0 < many) (h2 : many < 2 ^ 200) (h : r = 0) (hl : 0 < cs.length) (hx : atD (cs.map D.int) (s.fmod cs.length) = some (.int x)) (hs : s < cs.length) (hb : 10 ^ 18 ≤ x) :
    tk_m [.obj 0, .int many] [.fl (tap cs s r c)] = some (.int (x.fmod many), [.fl (tap cs (s + 1) (x.fdiv many) (c + 1))]) := by
  have e1 : many ≠ 0 := by omega
  have e2 : sm many = true := sm_lit (by omega)
  have e3 : (0 : Int) < cs.length := by omega
  have e4 : ¬ (cs.length = 0) := by omega
  have e5 : cs ≠ [] := by intro z; rw [z] at hl; exact absurd hl (by decide)
  simp at hb
  simp [tk_m, run, tk_b, sts, st, ev, evt, evs, startE, asg, setV, getO, setO, l_cells, l_spot, l_rest, l_calls, p_spot, p_rest, p_calls, h, e1, e2, hl, e4, e5, hx, hs, hb]
theorem take_mix {many : Int} {x : Int} (h1 : 0 < many) (h2 : many < 2 ^ 200) (h : r = 0) (hs0 : 0 ≤ s) (hc : 0 ≤ c) (hc2 : c < 2 ^ 18) (hx : (0 < cs.length ∧ atD (cs.map D.int) (s.fmod cs.length) = some (.int x)) ∨ (cs = [] ∧ x = 5))
    (hb : ¬ (s < cs.length ∧ 10 ^ 18 ≤ x)) : ∃ v, tk_m [.obj 0, .int many] [.fl (tap cs s r c)] = some (.int v, [.fl (tap cs (s + 1) r (c + 1))]) ∧ 0 ≤ v ∧ v < many := by
  have e1 : many ≠ 0 := by omega
  have e2 : sm many = true := sm_lit (by omega)
  have m1 := fmod_pos (a := x) (b := 2147483629) (by decide)
  have s1 : sm (c + 1) = true := sm_lit (by omega)
  have s2 : sm 6007 = true := by decide
  have s3 : sm 4099 = true := by decide
  have s4 : sm 32 = true := by decide
  have p1 : (x.fmod 2147483629 + 6007 * (c + 1) + 11).natAbs < 18446744073709551616 := by omega
  have m2 := fmod_pos (a := (x.fmod 2147483629 + 6007 * (c + 1) + 11) ^ 5) (b := 2147483647) (by decide)
  have s5 : sm (4099 * (c + 1)) = true := sm_lit (by omega)
  have b5 : 0 ≤ 4099 * (c + 1) * (c + 1) ∧ 4099 * (c + 1) * (c + 1) ≤ 2 ^ 31 * 2 ^ 19 := by
    refine ⟨Int.mul_nonneg (by omega) (by omega), Int.mul_le_mul (by omega) (by omega) (by omega) (by omega)⟩
  have p2 : (((x.fmod 2147483629 + 6007 * (c + 1) + 11) ^ 5).fmod 2147483647 + 4099 * (c + 1) * (c + 1)).natAbs < 18446744073709551616 := by omega
  have fin := fmod_pos (a := (((((x.fmod 2147483629 + 6007 * (c + 1) + 11) ^ 5).fmod 2147483647 + 4099 * (c + 1) * (c + 1)) ^ 5).fmod 2147483587).fdiv 32) h1
  refine ⟨_, ?_, fin⟩
  simp at hb
  rcases hx with ⟨hl, hx⟩ | ⟨hl, rfl⟩
  · have e4 : ¬ (cs.length = 0) := by omega
    have e5 : cs ≠ [] := by intro z; rw [z] at hl; exact absurd hl (by decide)
    by_cases h6 : s < cs.length
    · have h7 : ¬ (1000000000000000000 ≤ x) := by have := hb h6; omega
      simp [tk_m, run, tk_b, sts, st, ev, evt, evs, startE, asg, setV, getO, setO, l_cells, l_spot, l_rest, l_calls, p_spot, p_rest, p_calls, h, e1, e2, hl, e4, e5, hx, h6, h7, s1, s2, s3, s4, s5, p1, p2]
    · simp [tk_m, run, tk_b, sts, st, ev, evt, evs, startE, asg, setV, getO, setO, l_cells, l_spot, l_rest, l_calls, p_spot, p_rest, p_calls, h, e1, e2, hl, e4, e5, hx, h6, s1, s2, s3, s4, s5, p1, p2]
  · subst hl
    have h6 : ¬ (s < 0) := by omega
    have e7 : Int.fmod 5 2147483629 = 5 := by decide
    rw [e7] at p1 p2
    simp [tk_m, run, tk_b, sts, st, ev, evt, evs, startE, asg, setV, getO, setO, l_cells, l_spot, l_rest, l_calls, p_spot, p_rest, p_calls, h, e1, e2, h6, s1, s2, s3, s4, s5, p1, p2]
end
/-- the tap after c takes or fewer -/
structure Tp (c : Int) (S : Sto) : Prop where
  ex : ∃ cs s r k, S = [.fl (tap cs s r k)] ∧ 0 ≤ s ∧ 0 ≤ r ∧ 0 ≤ k ∧ k ≤ c
theorem take_ok {c many : Int} {S : Sto} (T : Tp c S) (hc : c < 2 ^ 18) (h1 : 0 < many) (h2 : many < 2 ^ 200) : ∃ v S', tk_m [.obj 0, .int many] S = some (.int v, S') ∧ 0 ≤ v ∧ v < many ∧ Tp (c + 1) S' := by
  obtain ⟨cs, s, r, k, rfl, hs, hr, hk, hkc⟩ := T.ex
  by_cases h : 0 < r
  · have m := fmod_pos (a := r) h1
    exact ⟨_, _, take_rest h1 h2 h, m.1, m.2, ⟨cs, s, _, _, rfl, hs, fdiv_pos h1 hr, by omega, by omega⟩⟩
  · have hr0 : r = 0 := by omega
    have hx : ∃ x, (0 < cs.length ∧ atD (cs.map D.int) (s.fmod cs.length) = some (.int x)) ∨ (cs = [] ∧ x = 5) := by
      by_cases hl : 0 < cs.length
      · have m := fmod_pos (a := s) (b := (cs.length : Int)) (by omega)
        have hj : (s.fmod cs.length).toNat < cs.length := by omega
        exact ⟨cs[(s.fmod cs.length).toNat], .inl ⟨hl, at_i m.1 (by rw [List.getElem?_map, List.getElem?_eq_getElem hj]; rfl)⟩⟩
      · exact ⟨5, .inr ⟨List.eq_nil_of_length_eq_zero (by omega), rfl⟩⟩
    obtain ⟨x, hx⟩ := hx
    by_cases hb : s < cs.length ∧ 10 ^ 18 ≤ x
    · rcases hx with ⟨hl, hx⟩ | ⟨hl, rfl⟩
      · have m := fmod_pos (a := x) h1
        exact ⟨_, _, take_big h1 h2 hr0 hl hx hb.1 hb.2, m.1, m.2, ⟨cs, s + 1, _, _, rfl, by omega, fdiv_pos h1 (by omega), by omega, by omega⟩⟩
      · exact absurd hb.2 (by decide)
    · obtain ⟨v, e, h3, h4⟩ := take_mix h1 h2 hr0 hs hk (by omega) hx hb
      exact ⟨v, _, e, h3, h4, ⟨cs, s + 1, r, _, rfl, by omega, hr, by omega, by omega⟩⟩
theorem Tp.mono {c d : Int} {S : Sto} (T : Tp c S) (h : c ≤ d) : Tp d S := by
  obtain ⟨cs, s, r, k, e, a, b, d, f⟩ := T.ex
  exact ⟨cs, s, r, k, e, a, b, d, by omega⟩
theorem r_loop1 {x y : Int} {S : Sto} : ∀ n, ∀ a b : Nat, a < n → whlM (fun en1 => evt c0 (.cmp .gt (.var 2) (.int 0)) en1) (fun en1 => sts c0 lo_b1 en1) n [.val (.int x), .val (.int y), .val (.int a), .val (.int b)] S = some ((.nx, [.val (.int x), .val (.int y), .val (.int 0), .val (.int (Nat.gcd a b))]), S) := by
  intro n
  induction n with
  | zero => intro a b h; omega
  | succ n ih =>
    intro a b h
    by_cases h0 : a = 0
    · subst h0
      refine (whl_end (S1 := S) ?_).trans ?_
      · simp [evt, ev]
      · simp
    · have hp : 0 < a := by omega
      have hf : Int.fmod (b : Int) (a : Int) = ((b % a : Nat) : Int) := by rw [Int.fmod_eq_emod_of_nonneg _ (by omega)]; rfl
      have hi := ih (b % a) a (by have := Nat.mod_lt b (by omega : a > 0); omega)
      rw [← Nat.gcd_rec] at hi
      exact whl_go (S1 := S) (by simp [evt, ev, hp]) (by simp [lo_b1, sts, st, ev, h0, hf, setV]) hi
theorem r_loop2 {x y : Int} {S : Sto} : ∀ n, ∀ a b : Nat, a < n → whlM (fun en1 => evt c0 (.cmp .gt (.var 2) (.int 0)) en1) (fun en1 => sts c0 ra_b1 en1) n [.val (.int x), .val (.int y), .val (.int a), .val (.int b), .no] S = some ((.nx, [.val (.int x), .val (.int y), .val (.int 0), .val (.int (Nat.gcd a b)), .no]), S) := by
  intro n
  induction n with
  | zero => intro a b h; omega
  | succ n ih =>
    intro a b h
    by_cases h0 : a = 0
    · subst h0
      refine (whl_end (S1 := S) ?_).trans ?_
      · simp [evt, ev]
      · simp
    · have hp : 0 < a := by omega
      have hf : Int.fmod (b : Int) (a : Int) = ((b % a : Nat) : Int) := by rw [Int.fmod_eq_emod_of_nonneg _ (by omega)]; rfl
      have hi := ih (b % a) a (by have := Nat.mod_lt b (by omega : a > 0); omega)
      rw [← Nat.gcd_rec] at hi
      exact whl_go (S1 := S) (by simp [evt, ev, hp]) (by simp [ra_b1, sts, st, ev, h0, hf, setV]) hi
theorem abs_nat (x : Int) : (if x < 0 then -x else x) = (x.natAbs : Int) := by split <;> omega
theorem gcd_pos {x y : Int} (hy : y ≠ 0) : 0 < Nat.gcd x.natAbs y.natAbs := Nat.gcd_pos_of_pos_right _ (by omega)
theorem gcd_sm {x y : Int} (hy : y ≠ 0) (h2 : y.natAbs < 2 ^ 3000) : sm ((Nat.gcd x.natAbs y.natAbs : Nat) : Int) = true := by
  have h := Nat.gcd_le_right (n := y.natAbs) x.natAbs (by omega)
  refine sm_of (Nat.lt_of_le_of_lt (m := y.natAbs) (by omega) (Nat.lt_trans h2 (by decide)))
theorem r_lowest {x y : Int} {S : Sto} (hy : 0 < y) (h1 : x.natAbs < 2 ^ 3000) (h2 : y.natAbs < 2 ^ 3000) : lo_m [.int x, .int y] S = some (fr (lw x y), S) := by
  have l := r_loop1 (x := x) (y := y) (S := S) FUEL x.natAbs y.natAbs (lt_fuel (Nat.lt_trans h1 (by decide)))
  have ey : ((y.natAbs : Nat) : Int) = y := by omega
  rw [ey] at l
  have gp := gcd_pos (x := x) (y := y) (by omega)
  have gs := gcd_sm (x := x) (y := y) (by omega) h2
  have g0 : ¬ (Nat.gcd x.natAbs y.natAbs = 0) := by omega
  generalize hF : FUEL = F at l
  generalize hg : Nat.gcd x.natAbs y.natAbs = gg at l gp gs g0
  have e : lw x y = (x.fdiv (gg : Int), y.fdiv (gg : Int)) := by unfold lw; rw [hg]
  rw [e]
  simp [lo_m, run, lo_b, sts, st, ev, evs, startE, setV, abs_nat, l, hF, gs, g0, fr]
theorem neg_fdiv2 (x g : Int) : x.fdiv (-g) = (-x).fdiv g := by
  have h := Int.neg_fdiv_neg (-x) g
  rw [Int.neg_neg] at h
  exact h
theorem gcd_neg (x y : Int) : Nat.gcd (-x).natAbs (-y).natAbs = Nat.gcd x.natAbs y.natAbs := by rw [Int.natAbs_neg, Int.natAbs_neg]
/-- what the program's ratio gives -/
def rt (x y : Int) : Int × Int := if 0 < y then lw x y else lw (-x) (-y)
theorem r_ratio {x y : Int} {S : Sto} (hy : y ≠ 0) (h1 : x.natAbs < 2 ^ 3000) (h2 : y.natAbs < 2 ^ 3000) : ra_m [.int x, .int y] S = some (fr (rt x y), S) := by
  have l := r_loop2 (x := x) (y := y) (S := S) FUEL x.natAbs y.natAbs (lt_fuel (Nat.lt_trans h1 (by decide)))
  have gp := gcd_pos (x := x) hy
  have gs := gcd_sm (x := x) hy h2
  have g0 : ¬ (Nat.gcd x.natAbs y.natAbs = 0) := by omega
  generalize hF : FUEL = F at l
  generalize hg : Nat.gcd x.natAbs y.natAbs = gg at l gp gs g0
  have gs2 : sm (-(gg : Int)) = true := by
    unfold sm at gs ⊢
    rw [Int.natAbs_neg]
    exact gs
  have l2 : st c0 (.whl (.cmp .gt (.var 2) (.int 0)) ra_b1) [.val (.int x), .val (.int y), .val (.int x.natAbs), .val (.int y.natAbs), .no] S = some ((.nx, [.val (.int x), .val (.int y), .val (.int 0), .val (.int gg), .no]), S) := by
    rw [st_whl, hF]
    exact l
  by_cases hp : 0 < y
  · have e : rt x y = (x.fdiv (gg : Int), y.fdiv (gg : Int)) := by unfold rt lw; rw [if_pos hp, hg]
    rw [e]
    refine run_go rfl (sts_go (S1 := S) (en1 := [.val (.int x), .val (.int y), .val (.int x.natAbs), .val (.int y.natAbs), .no]) (by simp [st, ev, startE, setV, abs_nat]) (sts_go l2 (sts_go (st_set (d := .int gg) (S1 := S) (en1 := [.val (.int x), .val (.int y), .val (.int 0), .val (.int gg), .val (.int gg)]) (by simp [ev, evt, hp]) rfl) (sts_fin ?_))))
    simp [ev, evs, gs, g0, fr]
  · have e : rt x y = (x.fdiv (-(gg : Int)), y.fdiv (-(gg : Int))) := by
      unfold rt lw
      rw [if_neg hp, gcd_neg, hg, neg_fdiv2, neg_fdiv2]
    rw [e]
    refine run_go rfl (sts_go (S1 := S) (en1 := [.val (.int x), .val (.int y), .val (.int x.natAbs), .val (.int y.natAbs), .no]) (by simp [st, ev, startE, setV, abs_nat]) (sts_go l2 (sts_go (st_set (d := .int (-gg)) (S1 := S) (en1 := [.val (.int x), .val (.int y), .val (.int 0), .val (.int gg), .val (.int (-gg))]) (by simp [ev, evt, hp]) rfl) (sts_fin ?_))))
    simp [ev, evs, gs2, g0, fr]
/-! ### the drawn -/
def okf (p : Int × Int) : Prop := 0 < p.2 ∧ p.2 ≤ 100 ∧ -100 ≤ p.1 ∧ p.1 ≤ 100
theorem lw_pos {x y : Int} (hy : 0 < y) : 0 < (lw x y).2 := by
  have gp := gcd_pos (x := x) (y := y) (by omega)
  obtain ⟨k, hk⟩ := Nat.gcd_dvd_right x.natAbs y.natAbs
  unfold lw
  generalize Nat.gcd x.natAbs y.natAbs = gg at *
  have e : y = (gg : Int) * (k : Int) := by
    have : y = (y.natAbs : Int) := by omega
    rw [this, hk]
    exact Int.natCast_mul gg k
  show 0 < y.fdiv gg
  rw [e, Int.mul_fdiv_cancel_left _ (by omega)]
  rcases Nat.eq_zero_or_pos k with z | z
  · subst z; simp at e; omega
  · omega
theorem fdiv_abs {x : Int} {n : Nat} (hn : 0 < n) : (x.fdiv (n : Int)).natAbs ≤ x.natAbs := by
  have hn' : (0 : Int) < n := by omega
  rw [Int.fdiv_eq_ediv_of_nonneg _ (by omega)]
  have h1 := Int.ediv_mul_le x (show (n : Int) ≠ 0 by omega)
  have h2 := Int.lt_ediv_add_one_mul_self x hn'
  generalize x / (n : Int) = q at *
  by_cases hq : 0 ≤ q
  · have : q * 1 ≤ q * n := Int.mul_le_mul_of_nonneg_left (by omega) hq
    omega
  · have : (q + 1) * (n : Int) ≤ (q + 1) * 1 := Int.mul_le_mul_of_nonpos_left (by omega) (by omega)
    omega
theorem lw_le {x y : Int} (hy : y ≠ 0) : (lw x y).1.natAbs ≤ x.natAbs ∧ (lw x y).2.natAbs ≤ y.natAbs := ⟨fdiv_abs (gcd_pos hy), fdiv_abs (gcd_pos hy)⟩
theorem small3 {x : Int} (h : x.natAbs ≤ 2 ^ 60) : x.natAbs < 2 ^ 3000 := Nat.lt_of_le_of_lt h (by decide)
theorem abs_mul_le {x y : Int} {n m : Nat} (h1 : x.natAbs ≤ n) (h2 : y.natAbs ≤ m) : (x * y).natAbs ≤ n * m := by
  rw [Int.natAbs_mul]; exact Nat.mul_le_mul h1 h2
theorem rt_pos {x y : Int} (h : 0 < y) : rt x y = lw x y := if_pos h
theorem sm3 {x : Int} (h : x.natAbs < 2 ^ 3000) : sm x = true := sm_of (Nat.lt_trans h (by decide))
theorem lf_fr {p : Int × Int} (h1 : p.1.natAbs < 2 ^ 1900) (h2 : p.2.natAbs < 2 ^ 1900) : (fr p).lf = true := by
  show ((D.int p.1).lf && ((D.int p.2).lf && true)) = true
  rw [lf_int h1, lf_int h2]
  rfl
theorem p19 {x : Int} (h : x.natAbs ≤ 2 ^ 1000) : x.natAbs < 2 ^ 1900 := Nat.lt_of_le_of_lt h (by decide)
theorem lw_lf {x y : Int} (hy : y ≠ 0) (h1 : x.natAbs ≤ 2 ^ 1000) (h2 : y.natAbs ≤ 2 ^ 1000) : (fr (lw x y)).lf = true := by
  have l := lw_le (x := x) hy
  exact lf_fr (p19 (Nat.le_trans l.1 h1)) (p19 (Nat.le_trans l.2 h2))
theorem lw_zero {y : Int} (h : 0 < y) : lw 0 y = (0, 1) := by
  unfold lw
  have e : ((Nat.gcd (0 : Int).natAbs y.natAbs : Nat) : Int) = y := by
    rw [Int.natAbs_zero, Nat.gcd_zero_left]
    omega
  rw [e, Int.zero_fdiv, Int.fdiv_self (by omega)]
theorem rt_zero {y : Int} (h : y ≠ 0) : rt 0 y = (0, 1) := by
  unfold rt
  split
  · rename_i h; exact lw_zero h
  · rw [Int.neg_zero]; exact lw_zero (by omega)
/-- the frame of the law -/
theorem le60 {n : Nat} (h : n ≤ 2 ^ 60) : n ≤ 2 ^ 1000 := Nat.le_trans h (by decide)
theorem lw_scale {g x y : Int} (hg : 0 < g) (hy : y ≠ 0) : lw (g * x) (g * y) = lw x y := by
  have gp := gcd_pos (x := x) hy
  unfold lw
  have e : ((Nat.gcd (g * x).natAbs (g * y).natAbs : Nat) : Int) = g * ((Nat.gcd x.natAbs y.natAbs : Nat) : Int) := by
    rw [Int.natAbs_mul, Int.natAbs_mul, Nat.gcd_mul_left, Int.natCast_mul]
    have : ((g.natAbs : Nat) : Int) = g := by omega
    rw [this]
  rw [e, Int.mul_fdiv_mul_of_pos _ _ hg, Int.mul_fdiv_mul_of_pos _ _ hg]
theorem lw_unscale {x y : Int} (hy : 0 < y) : ∃ g : Int, 0 < g ∧ x = g * (lw x y).1 ∧ y = g * (lw x y).2 := by
  have gp := gcd_pos (x := x) (y := y) (by omega)
  have gp2 : (0 : Int) < ((Nat.gcd x.natAbs y.natAbs : Nat) : Int) := by omega
  have d1 : ((Nat.gcd x.natAbs y.natAbs : Nat) : Int) ∣ x := Int.gcd_dvd_left x y
  have d2 : ((Nat.gcd x.natAbs y.natAbs : Nat) : Int) ∣ y := Int.gcd_dvd_right x y
  refine ⟨((Nat.gcd x.natAbs y.natAbs : Nat) : Int), gp2, ?_, ?_⟩
  · show x = _ * x.fdiv _
    generalize ((Nat.gcd x.natAbs y.natAbs : Nat) : Int) = gg at *
    obtain ⟨k, hk⟩ := d1
    rw [hk, Int.mul_fdiv_cancel_left _ (by omega)]
  · show y = _ * y.fdiv _
    generalize ((Nat.gcd x.natAbs y.natAbs : Nat) : Int) = gg at *
    obtain ⟨k, hk⟩ := d2
    rw [hk, Int.mul_fdiv_cancel_left _ (by omega)]
theorem lw_add {x y p q : Int} (hy : 0 < y) (hq : 0 < q) : lw ((lw x y).1 * q + p * (lw x y).2) ((lw x y).2 * q) = lw (x * q + p * y) (y * q) := by
  obtain ⟨g, hg, e1, e2⟩ := lw_unscale (x := x) hy
  have hp := lw_pos (x := x) hy
  generalize (lw x y).1 = u at *
  generalize (lw x y).2 = v at *
  subst e1 e2
  have a1 : g * u * q + p * (g * v) = g * (u * q + p * v) := by
    rw [Int.mul_add, Int.mul_assoc, Int.mul_left_comm p g v]
  have a2 : g * v * q = g * (v * q) := Int.mul_assoc _ _ _
  rw [a1, a2, lw_scale hg (Int.mul_ne_zero (by omega) (by omega))]
theorem lw_mul {x y p q : Int} (hy : 0 < y) (hq : 0 < q) : lw ((lw x y).1 * p) ((lw x y).2 * q) = lw (x * p) (y * q) := by
  obtain ⟨g, hg, e1, e2⟩ := lw_unscale (x := x) hy
  have hp := lw_pos (x := x) hy
  generalize (lw x y).1 = u at *
  generalize (lw x y).2 = v at *
  subst e1 e2
  have a1 : g * u * p = g * (u * p) := Int.mul_assoc _ _ _
  have a2 : g * v * q = g * (v * q) := Int.mul_assoc _ _ _
  rw [a1, a2, lw_scale hg (Int.mul_ne_zero (by omega) (by omega))]
theorem le200 {n : Nat} (h : n ≤ 2 ^ 200) : n < 2 ^ 3000 := Nat.lt_of_le_of_lt h (by decide)
theorem sm200 {x : Int} (h : x.natAbs ≤ 2 ^ 200) : sm x = true := sm_of (Nat.lt_of_le_of_lt h (by decide))
end Cv

/-! Cv18: kinds of data, filters, slices, sizes. -/
namespace Cv
open PySem
@[simp] theorem kb_NoneType_int : L2.kitB "NoneType" "int" = some false := by decide +kernel
@[simp] theorem kb_NoneType_bool : L2.kitB "NoneType" "bool" = some false := by decide +kernel
@[simp] theorem kb_NoneType_str : L2.kitB "NoneType" "str" = some false := by decide +kernel
@[simp] theorem kb_NoneType_tuple : L2.kitB "NoneType" "tuple" = some false := by decide +kernel
@[simp] theorem kb_NoneType_list : L2.kitB "NoneType" "list" = some false := by decide +kernel
@[simp] theorem kb_bool_int : L2.kitB "bool" "int" = some true := by decide +kernel
@[simp] theorem kb_bool_bool : L2.kitB "bool" "bool" = some true := by decide +kernel
@[simp] theorem kb_bool_str : L2.kitB "bool" "str" = some false := by decide +kernel
@[simp] theorem kb_bool_tuple : L2.kitB "bool" "tuple" = some false := by decide +kernel
@[simp] theorem kb_bool_list : L2.kitB "bool" "list" = some false := by decide +kernel
@[simp] theorem kb_int_int : L2.kitB "int" "int" = some true := by decide +kernel
@[simp] theorem kb_int_bool : L2.kitB "int" "bool" = some false := by decide +kernel
@[simp] theorem kb_int_str : L2.kitB "int" "str" = some false := by decide +kernel
@[simp] theorem kb_int_tuple : L2.kitB "int" "tuple" = some false := by decide +kernel
@[simp] theorem kb_int_list : L2.kitB "int" "list" = some false := by decide +kernel
@[simp] theorem kb_str_int : L2.kitB "str" "int" = some false := by decide +kernel
@[simp] theorem kb_str_bool : L2.kitB "str" "bool" = some false := by decide +kernel
@[simp] theorem kb_str_str : L2.kitB "str" "str" = some true := by decide +kernel
@[simp] theorem kb_str_tuple : L2.kitB "str" "tuple" = some false := by decide +kernel
@[simp] theorem kb_str_list : L2.kitB "str" "list" = some false := by decide +kernel
@[simp] theorem kb_tuple_int : L2.kitB "tuple" "int" = some false := by decide +kernel
@[simp] theorem kb_tuple_bool : L2.kitB "tuple" "bool" = some false := by decide +kernel
@[simp] theorem kb_tuple_str : L2.kitB "tuple" "str" = some false := by decide +kernel
@[simp] theorem kb_tuple_tuple : L2.kitB "tuple" "tuple" = some true := by decide +kernel
@[simp] theorem kb_tuple_list : L2.kitB "tuple" "list" = some false := by decide +kernel
@[simp] theorem kb_list_int : L2.kitB "list" "int" = some false := by decide +kernel
@[simp] theorem kb_list_bool : L2.kitB "list" "bool" = some false := by decide +kernel
@[simp] theorem kb_list_str : L2.kitB "list" "str" = some false := by decide +kernel
@[simp] theorem kb_list_tuple : L2.kitB "list" "tuple" = some false := by decide +kernel
@[simp] theorem kb_list_list : L2.kitB "list" "list" = some true := by decide +kernel
@[simp] theorem is_NoneType_int : isiD .non "int" = some false := kb_NoneType_int
@[simp] theorem is_NoneType_bool : isiD .non "bool" = some false := kb_NoneType_bool
@[simp] theorem is_NoneType_str : isiD .non "str" = some false := kb_NoneType_str
@[simp] theorem is_NoneType_tuple : isiD .non "tuple" = some false := kb_NoneType_tuple
@[simp] theorem is_NoneType_list : isiD .non "list" = some false := kb_NoneType_list
@[simp] theorem is_bool_int (b : Bool) : isiD (.bl b) "int" = some true := kb_bool_int
@[simp] theorem is_bool_bool (b : Bool) : isiD (.bl b) "bool" = some true := kb_bool_bool
@[simp] theorem is_bool_str (b : Bool) : isiD (.bl b) "str" = some false := kb_bool_str
@[simp] theorem is_bool_tuple (b : Bool) : isiD (.bl b) "tuple" = some false := kb_bool_tuple
@[simp] theorem is_bool_list (b : Bool) : isiD (.bl b) "list" = some false := kb_bool_list
@[simp] theorem is_int_int (i : Int) : isiD (.int i) "int" = some true := kb_int_int
@[simp] theorem is_int_bool (i : Int) : isiD (.int i) "bool" = some false := kb_int_bool
@[simp] theorem is_int_str (i : Int) : isiD (.int i) "str" = some false := kb_int_str
@[simp] theorem is_int_tuple (i : Int) : isiD (.int i) "tuple" = some false := kb_int_tuple
@[simp] theorem is_int_list (i : Int) : isiD (.int i) "list" = some false := kb_int_list
@[simp] theorem is_str_int (s : Str) : isiD (.str s) "int" = some false := kb_str_int
@[simp] theorem is_str_bool (s : Str) : isiD (.str s) "bool" = some false := kb_str_bool
@[simp] theorem is_str_str (s : Str) : isiD (.str s) "str" = some true := kb_str_str
@[simp] theorem is_str_tuple (s : Str) : isiD (.str s) "tuple" = some false := kb_str_tuple
@[simp] theorem is_str_list (s : Str) : isiD (.str s) "list" = some false := kb_str_list
@[simp] theorem is_tuple_int (xs : List D) : isiD (.tup xs) "int" = some false := kb_tuple_int
@[simp] theorem is_tuple_bool (xs : List D) : isiD (.tup xs) "bool" = some false := kb_tuple_bool
@[simp] theorem is_tuple_str (xs : List D) : isiD (.tup xs) "str" = some false := kb_tuple_str
@[simp] theorem is_tuple_tuple (xs : List D) : isiD (.tup xs) "tuple" = some true := kb_tuple_tuple
@[simp] theorem is_tuple_list (xs : List D) : isiD (.tup xs) "list" = some false := kb_tuple_list
@[simp] theorem is_list_int (xs : List D) : isiD (.lst xs) "int" = some false := kb_list_int
@[simp] theorem is_list_bool (xs : List D) : isiD (.lst xs) "bool" = some false := kb_list_bool
@[simp] theorem is_list_str (xs : List D) : isiD (.lst xs) "str" = some false := kb_list_str
@[simp] theorem is_list_tuple (xs : List D) : isiD (.lst xs) "tuple" = some false := kb_list_tuple
@[simp] theorem is_list_list (xs : List D) : isiD (.lst xs) "list" = some true := kb_list_list
@[simp] theorem tr_bl (b : Bool) : truD (.bl b) = some b := rfl
@[simp] theorem tr_int (i : Int) : truD (.int i) = some (i != 0) := rfl
@[simp] theorem tr_tup (xs : List D) : truD (.tup xs) = some (!xs.isEmpty) := rfl
@[simp] theorem tr_lst (xs : List D) : truD (.lst xs) = some (!xs.isEmpty) := rfl
theorem lcm_filter {α : Type} {f h : α → D} {p : α → Bool} {t : D → M Bool} {el : D → M D} {S0 : Sto} : ∀ (xs : List α), (∀ x ∈ xs, t (f x) S0 = some (p x, S0) ∧ (p x = true → el (f x) S0 = some (h x, S0))) → lcM t el (xs.map f) S0 = some ((xs.filter p).map h, S0)
  | [], _ => rfl
  | x :: xs, hp => by
    obtain ⟨h1, h2⟩ := hp x List.mem_cons_self
    have ih := lcm_filter xs fun y hy => hp y (List.mem_cons_of_mem _ hy)
    cases hx : p x with
    | true =>
      rw [hx] at h1
      rw [List.filter_cons_of_pos hx]
      exact lcm_go h1 (h2 hx) ih
    | false =>
      rw [hx] at h1
      rw [List.filter_cons_of_neg (by rw [hx]; exact Bool.false_ne_true)]
      exact lcm_skip h1 ih
theorem bls_map {α : Type} (k : α → Bool) : ∀ xs : List α, blsD (xs.map fun x => D.bl (k x)) = some (xs.map k)
  | [] => rfl
  | x :: xs => by
    show (blsD (xs.map fun x => D.bl (k x))).map (k x :: ·) = _
    rw [bls_map k xs]
    rfl
theorem all_map {α : Type} (k : α → Bool) (xs : List α) : b1D .all (.lst (xs.map fun x => D.bl (k x))) = some (.bl (xs.all k)) := by
  show (blsD _).map _ = _
  rw [bls_map]
  show some (D.bl ((xs.map k).all id)) = _
  rw [List.all_map]
  rfl
theorem emp_eq {ds : List D} (h : shp (.lst ds) = true) : cmpD .eq (.lst ds) (.lst []) = some ds.isEmpty := by
  show (if shp (.lst ds) && shp (.lst []) then some (PyData.eqv (D.lst ds).py (D.lst []).py) else none) = _
  rw [h]
  cases ds <;> rfl
theorem emp_ne {ds : List D} (h : shp (.lst ds) = true) : cmpD .ne (.lst ds) (.lst []) = some (!ds.isEmpty) := by
  show (if shp (.lst ds) && shp (.lst []) then some (!PyData.eqv (D.lst ds).py (D.lst []).py) else none) = _
  rw [h]
  cases ds <;> rfl
theorem empT_ne {ds : List D} (h : shp (.tup ds) = true) : cmpD .ne (.tup ds) (.tup []) = some (!ds.isEmpty) := by
  show (if shp (.tup ds) && shp (.tup []) then some (!PyData.eqv (D.tup ds).py (D.tup []).py) else none) = _
  rw [h]
  cases ds <;> rfl
theorem cut_to (xs : List D) {n : Int} (h : 0 ≤ n) : cutD xs none (some n) = xs.take n.toNat := by
  obtain ⟨k, rfl⟩ : ∃ k : Nat, n = k := ⟨n.toNat, by omega⟩
  unfold cutD
  rw [HT.sIx_none, HT.sIx_nat, List.drop_zero, Nat.sub_zero, Int.toNat_natCast]
  by_cases hk : k ≤ xs.length
  · rw [Nat.min_eq_left hk]
  · rw [Nat.min_eq_right (by omega), List.take_of_length_le (Nat.le_refl _), List.take_of_length_le (by omega)]
theorem cut_from (xs : List D) {n : Int} (h : 0 ≤ n) : cutD xs (some n) none = xs.drop n.toNat := by
  obtain ⟨k, rfl⟩ : ∃ k : Nat, n = k := ⟨n.toNat, by omega⟩
  unfold cutD
  rw [HT.sIx_none, HT.sIx_nat, Int.toNat_natCast]
  by_cases hn : k ≤ xs.length
  · rw [Nat.min_eq_left hn, List.take_of_length_le (by rw [List.length_drop]; exact Nat.le_refl _)]
  · rw [Nat.min_eq_right (by omega), Nat.sub_self, List.take_zero, List.drop_eq_nil_of_le (by omega)]
theorem cut_mid (xs : List D) {n m : Int} (h : 0 ≤ n) (h2 : n ≤ m) : cutD xs (some n) (some m) = (xs.drop n.toNat).take (m - n).toNat := by
  obtain ⟨k, rfl⟩ : ∃ k : Nat, n = k := ⟨n.toNat, by omega⟩
  obtain ⟨l, rfl⟩ : ∃ l : Nat, m = l := ⟨m.toNat, by omega⟩
  unfold cutD
  rw [HT.sIx_nat, HT.sIx_nat, Int.toNat_natCast]
  have e : ((l : Int) - (k : Int)).toNat = l - k := by omega
  rw [e]
  by_cases hl : l ≤ xs.length
  · rw [Nat.min_eq_left hl, Nat.min_eq_left (by omega)]
  · by_cases hk : k ≤ xs.length
    · rw [Nat.min_eq_left hk, Nat.min_eq_right (by omega), List.take_of_length_le (by rw [List.length_drop]; exact Nat.le_refl _), List.take_of_length_le (by rw [List.length_drop]; omega)]
    · rw [Nat.min_eq_right (by omega), Nat.min_eq_right (by omega), Nat.sub_self, List.take_zero, List.drop_eq_nil_of_le (by omega), List.take_nil]
/-! ### sizes of data -/
mutual
/-- small whole numbers, plain texts -/
def D.ws (N : Nat) : D → Bool
  | .non => true
  | .bl _ => true
  | .int i => decide (i.natAbs ≤ N)
  | .str s => s.cps.toList.all fun c => decide (c < 128)
  | .tup xs => D.wss N xs
  | .lst xs => D.wss N xs
  | .dct _ _ => false
  | .itv _ _ => false
  | .set _ => false
  | .obj _ => false
  | .fn _ => false
def D.wss (N : Nat) : List D → Bool
  | [] => true
  | x :: xs => D.ws N x && D.wss N xs
end
theorem wss_all {N : Nat} : ∀ {xs : List D}, D.wss N xs = true ↔ ∀ x ∈ xs, x.ws N = true
  | [] => ⟨(fun _ _ h => nomatch h), fun _ => rfl⟩
  | x :: xs => by
    show (D.ws N x && D.wss N xs) = true ↔ _
    rw [Bool.and_eq_true, wss_all]
    simp
mutual
theorem ws_mono {N M : Nat} (h : N ≤ M) : ∀ {d : D}, d.ws N = true → d.ws M = true
  | .non, _ => rfl
  | .bl _, _ => rfl
  | .int i, q => by
    have q : i.natAbs ≤ N := of_decide_eq_true q
    exact decide_eq_true (Nat.le_trans q h)
  | .str _, q => q
  | .tup xs, q => wss_mono h (xs := xs) q
  | .lst xs, q => wss_mono h (xs := xs) q
theorem wss_mono {N M : Nat} (h : N ≤ M) : ∀ {xs : List D}, D.wss N xs = true → D.wss M xs = true
  | [], _ => rfl
  | x :: xs, q => by
    have q := Bool.and_eq_true_iff.mp (show (D.ws N x && D.wss N xs) = true from q)
    exact Bool.and_eq_true_iff.mpr ⟨ws_mono h q.1, wss_mono h q.2⟩
end
mutual
theorem ws_lf {N : Nat} (h : N < 2 ^ 1900) : ∀ {d : D}, d.ws N = true → d.lf = true ∧ d.py.canLay0 = true
  | .non, _ => ⟨rfl, rfl⟩
  | .bl _, _ => ⟨rfl, rfl⟩
  | .int i, q => ⟨lf_int (Nat.lt_of_le_of_lt (of_decide_eq_true q) h), rfl⟩
  | .str s, q => by
    have q : (s.cps.toList.all fun c => decide (c < 128)) = true := q
    rw [List.all_eq_true] at q
    refine ⟨?_, ?_⟩
    · show (s.cps.toList.all fun c => decide (c < 16 ^ 8)) = true
      rw [List.all_eq_true]
      intro c hc
      have := of_decide_eq_true (q c hc)
      exact decide_eq_true (by omega)
    · show (s.cps.all fun c => decide (c < 0x110000)) = true
      rw [← Array.all_toList, List.all_eq_true]
      intro c hc
      have := of_decide_eq_true (q c hc)
      exact decide_eq_true (by omega)
  | .tup xs, q => wss_lf h (xs := xs) q
  | .lst xs, q => wss_lf h (xs := xs) q
theorem wss_lf {N : Nat} (h : N < 2 ^ 1900) : ∀ {xs : List D}, D.wss N xs = true → D.lfs xs = true ∧ PyData.canLayAll0 (D.pys xs) = true
  | [], _ => ⟨rfl, rfl⟩
  | x :: xs, q => by
    have q := Bool.and_eq_true_iff.mp (show (D.ws N x && D.wss N xs) = true from q)
    obtain ⟨a, b⟩ := ws_lf h q.1
    obtain ⟨c, d⟩ := wss_lf h q.2
    exact ⟨Bool.and_eq_true_iff.mpr ⟨a, c⟩, Bool.and_eq_true_iff.mpr ⟨b, d⟩⟩
end
/-- good data: numbers up to N, size up to b, depth up to p -/
structure Gd' (N b p : Nat) (d : D) : Prop where
  ws : d.ws N = true
  bk : d.py.bulk ≤ b
  dp : d.py.depth ≤ p
theorem Gd'.shp {N b p : Nat} {d : D} (h : Gd' N b p d) (hN : N < 2 ^ 1900) (hp : p ≤ 64) : shp d = true := by
  obtain ⟨a, c⟩ := ws_lf hN h.ws
  obtain ⟨e, _, _⟩ := lf_ok a
  unfold Cv.shp SeqAt.shaped
  rw [e, c, decide_eq_true (Nat.le_trans h.dp hp)]
  rfl
theorem Gd'.repr {N b p : Nat} {d : D} (h : Gd' N b p d) (hN : N < 2 ^ 1900) (hp : p ≤ 64) (hb : b ≤ 8000) : b1D .repr d = some (.str d.py.shown) :=
  repr_ok (ws_lf hN h.ws).1 (Nat.le_trans h.dp (by omega)) (Nat.le_trans h.bk hb)
theorem Gd'.mono {N b p N' b' p' : Nat} {d : D} (h : Gd' N b p d) (h1 : N ≤ N') (h2 : b ≤ b') (h3 : p ≤ p') : Gd' N' b' p' d := ⟨ws_mono h1 h.ws, Nat.le_trans h.bk h2, Nat.le_trans h.dp h3⟩
theorem bulk_mem : ∀ {xs : List D} {x : D}, x ∈ xs → x.py.bulk + 1 ≤ PyData.bulkAll (D.pys xs)
  | y :: xs, x, h => by
    show _ ≤ y.py.bulk + 1 + PyData.bulkAll (D.pys xs)
    rcases List.mem_cons.mp h with e | e
    · rw [e]; omega
    · have := bulk_mem e
      omega
theorem depth_mem : ∀ {xs : List D} {x : D}, x ∈ xs → x.py.depth ≤ PyData.depthAll (D.pys xs)
  | y :: xs, x, h => by
    show _ ≤ max y.py.depth (PyData.depthAll (D.pys xs))
    rcases List.mem_cons.mp h with e | e
    · rw [e]; exact Nat.le_max_left _ _
    · exact Nat.le_trans (depth_mem e) (Nat.le_max_right _ _)
theorem bulk_len : ∀ (xs : List D), xs.length ≤ PyData.bulkAll (D.pys xs)
  | [] => Nat.le_refl _
  | y :: xs => by
    have := bulk_len xs
    show xs.length + 1 ≤ y.py.bulk + 1 + PyData.bulkAll (D.pys xs)
    omega
theorem bulk_app : ∀ (xs ys : List D), PyData.bulkAll (D.pys (xs ++ ys)) = PyData.bulkAll (D.pys xs) + PyData.bulkAll (D.pys ys)
  | [], ys => by show _ = 0 + _; rw [Nat.zero_add]; rfl
  | x :: xs, ys => by
    show x.py.bulk + 1 + PyData.bulkAll (D.pys (xs ++ ys)) = x.py.bulk + 1 + PyData.bulkAll (D.pys xs) + _
    rw [bulk_app xs ys]
    omega
theorem depth_app : ∀ (xs ys : List D), PyData.depthAll (D.pys (xs ++ ys)) = max (PyData.depthAll (D.pys xs)) (PyData.depthAll (D.pys ys))
  | [], ys => by show _ = max 0 _; rw [Nat.zero_max]; rfl
  | x :: xs, ys => by
    show max x.py.depth (PyData.depthAll (D.pys (xs ++ ys))) = max (max x.py.depth (PyData.depthAll (D.pys xs))) _
    rw [depth_app xs ys, Nat.max_assoc]
theorem wss_app {N : Nat} : ∀ (xs ys : List D), D.wss N (xs ++ ys) = (D.wss N xs && D.wss N ys)
  | [], ys => by show _ = (true && _); rw [Bool.true_and]; rfl
  | x :: xs, ys => by
    show (x.ws N && D.wss N (xs ++ ys)) = (x.ws N && D.wss N xs && _)
    rw [wss_app xs ys, Bool.and_assoc]
/-- good rows of data -/
structure Gs (N b p : Nat) (xs : List D) : Prop where
  ws : D.wss N xs = true
  bk : PyData.bulkAll (D.pys xs) ≤ b
  dp : PyData.depthAll (D.pys xs) ≤ p
theorem Gs.tup {N b p : Nat} {xs : List D} (h : Gs N b p xs) : Gd' N b (p + 1) (.tup xs) := ⟨h.ws, h.bk, Nat.succ_le_succ h.dp⟩
theorem Gs.lst {N b p : Nat} {xs : List D} (h : Gs N b p xs) : Gd' N b (p + 1) (.lst xs) := ⟨h.ws, h.bk, Nat.succ_le_succ h.dp⟩
theorem Gd'.row {N b p : Nat} {xs : List D} (h : Gd' N b (p + 1) (.tup xs)) : Gs N b p xs := ⟨h.ws, h.bk, Nat.le_of_succ_le_succ h.dp⟩
theorem Gs.app {N b c p : Nat} {xs ys : List D} (h : Gs N b p xs) (q : Gs N c p ys) : Gs N (b + c) p (xs ++ ys) := by
  refine ⟨by rw [wss_app, h.ws, q.ws]; rfl, by rw [bulk_app]; exact Nat.add_le_add h.bk q.bk, by rw [depth_app]; exact Nat.max_le.mpr ⟨h.dp, q.dp⟩⟩
theorem Gs.mono {N b p N' b' p' : Nat} {xs : List D} (h : Gs N b p xs) (h1 : N ≤ N') (h2 : b ≤ b') (h3 : p ≤ p') : Gs N' b' p' xs := ⟨wss_mono h1 h.ws, Nat.le_trans h.bk h2, Nat.le_trans h.dp h3⟩
theorem Gs.mem {N b p : Nat} {xs : List D} (h : Gs N b p xs) {x : D} (hx : x ∈ xs) : Gd' N b p x := ⟨wss_all.mp h.ws x hx, by have := bulk_mem hx; have := h.bk; omega, Nat.le_trans (depth_mem hx) h.dp⟩
theorem Gs.one {N b p : Nat} {x : D} (h : Gd' N b p x) : Gs N (b + 1) p [x] := by
  refine ⟨?_, ?_, ?_⟩
  · show (x.ws N && true) = true
    rw [h.ws]; rfl
  · show x.py.bulk + 1 + 0 ≤ b + 1
    have := h.bk
    omega
  · exact Nat.max_le.mpr ⟨h.dp, Nat.zero_le _⟩
theorem Gs.split {N b p : Nat} {xs : List D} (h : Gs N b p xs) (n : Nat) : Gs N b p (xs.take n) ∧ Gs N b p (xs.drop n) := by
  have e := List.take_append_drop n xs
  have h1 := h.ws
  have h2 := h.bk
  have h3 := h.dp
  rw [← e] at h1 h2 h3
  rw [wss_app, Bool.and_eq_true] at h1
  rw [bulk_app] at h2
  rw [depth_app] at h3
  exact ⟨⟨h1.1, by omega, by omega⟩, ⟨h1.2, by omega, by omega⟩⟩
end Cv

namespace Cv.Kp
open PySem Cv
def g_LETTERS : D := (.str "abcdefghijklmnopqrstuvwxyz")
def g_LONGEST : D := (.int 8)
def N_is_word : List Str := ["thing", "sign"]
def e_is_word_1 : E := .lc1 [1] (.nm 1) (.sq (.var 0)) .n (.cmp .isin (.var 1) (.glo 1))
def b_is_word : List S := [.ife (.or (.not (.isi (.var 0) "str")) (.not (.chn .le .le (.int 1) (.b1 .len (.var 0)) (.glo 0)))) [.ret (.bl false)] [], .ret (.b1 .all e_is_word_1)]
def c_is_word : Cf := ⟨[g_LONGEST, g_LETTERS], []⟩
def m_is_word : List D → M D := run c_is_word ⟨N_is_word.length, b_is_word⟩ 1
def N_is_number : List Str := ["thing"]
def b_is_number : List S := [.ret (.and (.isi (.var 0) "int") (.not (.isi (.var 0) "bool")))]
def c_is_number : Cf := ⟨[], []⟩
def m_is_number : List D → M D := run c_is_number ⟨N_is_number.length, b_is_number⟩ 1
def N_is_long : List Str := ["thing", "many"]
def b_is_long : List S := [.ret (.and (.isi (.var 0) "tuple") (.cmp .eq (.b1 .len (.var 0)) (.var 1)))]
def c_is_long : Cf := ⟨[], []⟩
def m_is_long : List D → M D := run c_is_long ⟨N_is_long.length, b_is_long⟩ 2
def N_ratio : List Str := ["over", "under", "one", "other", "by"]
def b_ratio_1 : List S := [.par 2 3 (.bin .mod (.var 3) (.var 2)) (.var 2)]
def b_ratio : List S := [.par 2 3 (.b1 .abs (.var 0)) (.b1 .abs (.var 1)), .whl (.cmp .gt (.var 2) (.int 0)) b_ratio_1, .set (.nm 4) (.ife (.cmp .gt (.var 1) (.int 0)) (.var 3) (.bin .sub (.int 0) (.var 3))), .ret (.tup (.c (.bin .fdiv (.var 0) (.var 4)) (.c (.bin .fdiv (.var 1) (.var 4)) .n)))]
def c_ratio : Cf := ⟨[], []⟩
def m_ratio : List D → M D := run c_ratio ⟨N_ratio.length, b_ratio⟩ 2
def N_is_fraction : List Str := ["thing", "one"]
def e_is_fraction_1 : E := .lc1 [1] (.nm 1) (.sq (.var 0)) .n (.call 1 (.c (.var 1) .n))
def b_is_fraction : List S := [.ife (.or (.not (.call 0 (.c (.var 0) (.c (.int 2) .n)))) (.not (.b1 .all e_is_fraction_1))) [.ret (.bl false)] [], .ret (.and (.cmp .ge (.idx (.var 0) (.int 1)) (.int 1)) (.cmp .eq (.call 2 (.c (.idx (.var 0) (.int 0)) (.c (.idx (.var 0) (.int 1)) .n))) (.var 0)))]
def c_is_fraction : Cf := ⟨[], [m_is_long, m_is_number, m_ratio]⟩
def m_is_fraction : List D → M D := run c_is_fraction ⟨N_is_fraction.length, b_is_fraction⟩ 1
def N_is_chance : List Str := ["thing"]
def b_is_chance : List S := [.ret (.and (.call 0 (.c (.var 0) .n)) (.chn .le .le (.int 0) (.idx (.var 0) (.int 0)) (.idx (.var 0) (.int 1))))]
def c_is_chance : Cf := ⟨[], [m_is_fraction]⟩
def m_is_chance : List D → M D := run c_is_chance ⟨N_is_chance.length, b_is_chance⟩ 1
def N_is_term : List Str := ["thing"]
def b_is_term : List S := [.ife (.or (.not (.call 0 (.c (.var 0) (.c (.int 2) .n)))) (.not (.isi (.idx (.var 0) (.int 0)) "str"))) [.ret (.bl false)] [], .ret (.and (.cmp .isin (.idx (.var 0) (.int 0)) (.tup (.c (.str "word") (.c (.str "any") .n)))) (.call 1 (.c (.idx (.var 0) (.int 1)) .n)))]
def c_is_term : Cf := ⟨[], [m_is_long, m_is_word]⟩
def m_is_term : List D → M D := run c_is_term ⟨N_is_term.length, b_is_term⟩ 1
def N_is_atom : List Str := ["thing", "one"]
def e_is_atom_1 : E := .lc1 [1] (.nm 1) (.sq (.idx (.var 0) (.int 1))) .n (.call 2 (.c (.var 1) .n))
def b_is_atom : List S := [.ife (.or (.not (.call 0 (.c (.var 0) (.c (.int 2) .n)))) (.or (.not (.call 1 (.c (.idx (.var 0) (.int 0)) .n))) (.or (.not (.isi (.idx (.var 0) (.int 1)) "tuple")) (.cmp .eq (.b1 .len (.idx (.var 0) (.int 1))) (.int 0))))) [.ret (.bl false)] [], .ret (.b1 .all e_is_atom_1)]
def c_is_atom : Cf := ⟨[], [m_is_long, m_is_word, m_is_term]⟩
def m_is_atom : List D → M D := run c_is_atom ⟨N_is_atom.length, b_is_atom⟩ 1
open PySem Cv
theorem ra_eq : m_ratio = ra_m := rfl
abbrev Th (d : D) : Prop := Gd' (2 ^ 300) 8000 60 d
theorem pp {d : D} (h : Th d) : shp d = true := h.shp (by decide) (by decide)
def isN : D → Bool
  | .int _ => true
  | _ => false
section
variable {d : D} {S : Sto}
theorem r_number (h : Th d) : m_is_number [d] S = some (.bl (isN d), S) := by
  have h := h.ws
  cases d <;> first
    | (cases h; done)
    | (simp [m_is_number, Cv.run, b_is_number, N_is_number, sts, st, ev, startE, isN])
def inL (c : Nat) : Bool := !(Builtin.Str.occurrences "abcdefghijklmnopqrstuvwxyz" ⟨#[c]⟩ 0 (Str.length "abcdefghijklmnopqrstuvwxyz") 1).isEmpty
def isW : D → Bool
  | .str s => decide (1 ≤ s.length) && decide (s.length ≤ 8) && s.cps.toList.all inL
  | _ => false
theorem sin (c : Nat) : cmpD .isin (.str ⟨#[c]⟩) (.str "abcdefghijklmnopqrstuvwxyz") = some (inL c) := rfl
theorem snot (c : Nat) : cmpD .notin (.str ⟨#[c]⟩) (.str "abcdefghijklmnopqrstuvwxyz") = some (!inL c) := by
  show some _ = some _
  unfold inL
  rfl
theorem len_line {s : Str} (h : Th (.str s)) : s.length ≤ sizeLine := by
  have h1 : s.cps.size ≤ 8000 := h.bk
  rw [sizeLine_eq]
  have : s.length = s.cps.size := rfl
  omega
theorem f_lenS {s : Str} (h : s.length ≤ sizeLine) : b1D .len (.str s) = some (.int s.length) := if_pos h
theorem seqS {s : Str} (h : s.length ≤ sizeLine) : seqD (.str s) = some (s.cps.toList.map fun c => D.str ⟨#[c]⟩) := if_pos h
theorem signs {s : Str} (h : Th (.str s)) (p : Nat → Bool) : shp (.lst ((s.cps.toList.filter p).map fun c => D.str ⟨#[c]⟩)) = true := by
  have hw : (s.cps.toList.all fun c => decide (c < 128)) = true := h.ws
  rw [List.all_eq_true] at hw
  have hb : s.cps.size ≤ 8000 := h.bk
  have g : Gd' (2 ^ 300) 16000 1 (.lst ((s.cps.toList.filter p).map fun c => D.str ⟨#[c]⟩)) := by
    refine ⟨?_, ?_, ?_⟩
    · show D.wss _ _ = true
      rw [wss_all]
      intro x hx
      obtain ⟨c, hc, rfl⟩ := List.mem_map.mp hx
      have := hw c (List.mem_filter.mp hc).1
      show ([c].all fun c => decide (c < 128)) = true
      rw [List.all_cons, this]
      rfl
    · have := bulk_map (f := fun c : Nat => D.str ⟨#[c]⟩) (n := 1) (xs := s.cps.toList.filter p) fun c _ => Nat.le_of_ble_eq_true rfl
      have h2 : (s.cps.toList.filter p).length ≤ s.cps.toList.length := List.length_filter_le _ _
      have h3 : s.cps.toList.length = s.cps.size := Array.length_toList
      show PyData.bulkAll _ ≤ 16000
      omega
    · have := dep_map (f := fun c : Nat => D.str ⟨#[c]⟩) (n := 0) (xs := s.cps.toList.filter p) fun c _ => Nat.le_of_ble_eq_true rfl
      show PyData.depthAll _ + 1 ≤ 1
      omega
  exact g.shp (by decide) (by decide)
theorem filter_emp (p : Nat → Bool) (l : List Nat) : (l.filter fun c => !p c).isEmpty = l.all p := by
  induction l with
  | nil => rfl
  | cons c l ih =>
    rw [List.filter_cons, List.all_cons]
    cases h : p c <;> simp [ih]
theorem r_word (h : Th d) : m_is_word [d] S = some (.bl (isW d), S) := by
  have hw := h.ws
  cases d with
  | str s =>
    have hl := len_line h
    have l1 : (s.length : Int) = ((s.cps.size : Nat) : Int) := rfl
    have ev1 : ev c_is_word e_is_word_1 [.val (.str s), .no] S = some (.lst (s.cps.toList.map fun c => D.bl (inL c)), S) := by
      have := lcm_map (S0 := S) (f := fun c : Nat => D.str ⟨#[c]⟩) (h := D.bl) (t := fun d => M.bnd (M.opt (asg (.nm 1) d (wipeE [.val (.str s), .no] [1]))) fun en2 => evc c_is_word .n en2)
        (el := fun d => M.bnd (M.opt (asg (.nm 1) d (wipeE [.val (.str s), .no] [1]))) fun en2 => ev c_is_word (.cmp .isin (.var 1) (.glo 1)) en2) inL s.cps.toList fun c _ => by
          refine ⟨by simp [asg, wipeE, setV, evc], ?_⟩
          simp [asg, wipeE, setV, ev, c_is_word, g_LETTERS, sin]
      have ei : evi c_is_word (.sq (.var 0)) [.val (.str s), .no] S = some (s.cps.toList.map fun c => D.str ⟨#[c]⟩, S) := by simp [evi, seqS hl]
      rw [e_is_word_1, ev, x_bnd, ei]
      show M.bnd (lcM _ _ _) _ S = _
      rw [x_bnd, this]
      rfl
    by_cases c1 : 1 ≤ s.length
    · have z1 : (1 : Int) ≤ (s.length : Int) := by omega
      by_cases c2 : s.length ≤ 8
      · have z2 : (s.length : Int) ≤ 8 := by omega
        have e : isW (.str s) = s.cps.toList.all inL := by simp [isW, c1, c2]
        rw [e]
        refine run_go rfl (sts_go (S1 := S) (en1 := [.val (.str s), .no]) ?_ (sts_fin ?_))
        · simp [st, sts, ev, evt, startE, N_is_word, f_lenS hl, c_is_word, g_LONGEST, z1, z2]
        · rw [ev, x_bnd, ev1]
          simp only [all_map, x_opt]
      · have z2 : ¬ ((s.length : Int) ≤ 8) := by omega
        have e : isW (.str s) = false := by simp [isW, c2]
        rw [e]
        refine run_go (en := [.val (.str s), .no]) rfl (sts_ret ?_)
        simp [st, sts, ev, evt, startE, N_is_word, f_lenS hl, c_is_word, g_LONGEST, z1, z2]
    · have z1 : ¬ ((1 : Int) ≤ (s.length : Int)) := by omega
      have e : isW (.str s) = false := by simp [isW, c1]
      rw [e]
      refine run_go (en := [.val (.str s), .no]) rfl (sts_ret ?_)
      simp [st, sts, ev, evt, startE, N_is_word, f_lenS hl, c_is_word, g_LONGEST, z1]
  | _ => first
    | (cases hw; done)
    | (simp [m_is_word, Cv.run, b_is_word, N_is_word, sts, st, ev, evt, startE, isW])
theorem Th.row {xs : List D} (h : Th (.tup xs)) {x : D} (hx : x ∈ xs) : Th x := (Gd'.row (p := 59) h).mem hx |>.mono (Nat.le_refl _) (Nat.le_refl _) (by decide)
def kindB (s : Str) : Bool := memD (.str s) [.str "word", .str "any"]
def isT : D → Bool
  | .tup [.str s, y] => kindB s && isW y
  | _ => false
theorem kind_in {s : Str} (h : Th (.str s)) : cmpD .isin (.str s) (.tup [.str "word", .str "any"]) = some (kindB s) := by
  show (if shp (.str s) && shp (.tup [.str "word", .str "any"]) then some (memD (.str s) [.str "word", .str "any"]) else none) = _
  rw [pp h, show shp (.tup [.str "word", .str "any"]) = true from by decide +kernel]
  rfl
theorem r_long {n : Int} (h : Th d) : m_is_long [d, .int n] S = some (.bl (match d with
    | .tup xs => ((xs.length : Int) == n)
    | _ => false), S) := by
  have h := h.ws
  cases d <;> first
    | (cases h; done)
    | (simp [m_is_long, Cv.run, b_is_long, N_is_long, sts, st, ev, startE])
theorem len2 {xs : List D} (h : xs.length = 2) : ∃ x y, xs = [x, y] := by
  match xs, h with
  | [x, y], _ => exact ⟨x, y, rfl⟩
theorem isT_len {xs : List D} (h : xs.length ≠ 2) : isT (.tup xs) = false := by
  match xs, h with
  | [], _ => simp [isT]
  | [_], _ => simp [isT]
  | [_, _], h => exact absurd rfl h
  | _ :: _ :: _ :: _, _ => simp [isT]
theorem r_term (h : Th d) : m_is_term [d] S = some (.bl (isT d), S) := by
  have hw := h.ws
  have gl := r_long (S := S) (n := 2) h
  cases d with
  | tup xs =>
    by_cases hl : xs.length = 2
    · obtain ⟨x, y, rfl⟩ := len2 hl
      have hx := h.row (x := x) (by simp)
      have hy := h.row (x := y) (by simp)
      have hxw := hx.ws
      have gw := r_word (S := S) hy
      cases x with
      | str s =>
        simp at gl
        simp [m_is_term, Cv.run, b_is_term, N_is_term, c_is_term, sts, st, ev, evt, evs, startE, gl, kind_in hx, isT]
        cases kindB s <;> simp [gw]
      | _ => first
        | (cases hxw; done)
        | (simp at gl
           simp [m_is_term, Cv.run, b_is_term, N_is_term, c_is_term, sts, st, ev, evt, evs, startE, gl, isT])
    · rw [isT_len hl]
      have hl2 : ¬ ((xs.length : Int) = 2) := by omega
      simp [hl2] at gl
      simp [m_is_term, Cv.run, b_is_term, N_is_term, c_is_term, sts, st, ev, evt, evs, startE, gl, hl2]
  | _ => first
    | (cases hw; done)
    | (simp at gl
       simp [m_is_term, Cv.run, b_is_term, N_is_term, c_is_term, sts, st, ev, evt, evs, startE, gl, isT])
def isF : D → Bool
  | .tup [.int a, .int b] => decide (1 ≤ b) && (Nat.gcd a.natAbs b.natAbs == 1)
  | _ => false
theorem isF_len {xs : List D} (h : xs.length ≠ 2) : isF (.tup xs) = false := by
  match xs, h with
  | [], _ => simp [isF]
  | [_], _ => simp [isF]
  | [_, _], h => exact absurd rfl h
  | _ :: _ :: _ :: _, _ => simp [isF]
theorem lw_self {a b : Int} (hb : 1 ≤ b) : cmpD .eq (fr (lw a b)) (.tup [.int a, .int b]) = some (Nat.gcd a.natAbs b.natAbs == 1) := by
  have e : cmpD .eq (fr (lw a b)) (.tup [.int a, .int b]) = some (PyData.eqv (fr (lw a b)).py (D.tup [.int a, .int b]).py) := by
    show (if shp (fr (lw a b)) && shp (.tup [.int a, .int b]) then some (PyData.eqv (fr (lw a b)).py (D.tup [.int a, .int b]).py) else none) = _
    exact if_pos rfl
  rw [e]
  have e2 : PyData.eqv (fr (lw a b)).py (D.tup [.int a, .int b]).py = (((lw a b).1 == a) && ((lw a b).2 == b)) := by
    show ((lw a b).1 == a && ((lw a b).2 == b && true)) = _
    rw [Bool.and_true]
  rw [e2]
  congr 1
  obtain ⟨g, hg, e3, e4⟩ := lw_unscale (x := a) (y := b) (by omega)
  have gp := gcd_pos (x := a) (y := b) (by omega)
  have l1 : (lw a b).1 = a.fdiv ((Nat.gcd a.natAbs b.natAbs : Nat) : Int) := rfl
  have l2 : (lw a b).2 = b.fdiv ((Nat.gcd a.natAbs b.natAbs : Nat) : Int) := rfl
  have d2 : ((Nat.gcd a.natAbs b.natAbs : Nat) : Int) ∣ b := Int.gcd_dvd_right a b
  rw [l1, l2]
  generalize Nat.gcd a.natAbs b.natAbs = gg at *
  by_cases h1 : gg = 1
  · subst h1
    simp
  · have hn : (gg == 1) = false := by simpa using h1
    rw [hn]
    obtain ⟨k, hk⟩ := d2
    have hne : b.fdiv (gg : Int) ≠ b := by
      rw [hk, Int.mul_fdiv_cancel_left _ (by omega)]
      intro z
      have kp : 0 < k := by
        by_cases hk0 : 0 < k
        · exact hk0
        · exfalso
          have : (gg : Int) * k ≤ 0 := Int.mul_nonpos_of_nonneg_of_nonpos (by omega) (by omega)
          omega
      have : 2 * k ≤ (gg : Int) * k := Int.mul_le_mul_of_nonneg_right (by omega) (by omega)
      omega
    have : (b.fdiv (gg : Int) == b) = false := by simpa using hne
    rw [this, Bool.and_false]
theorem int_lim {i : Int} (h : Th (.int i)) : i.natAbs < 2 ^ 3000 := by
  have : i.natAbs ≤ 2 ^ 300 := of_decide_eq_true h.ws
  exact Nat.lt_of_le_of_lt this (by decide)
theorem two_num {x y : D} (hx : Th x) (hy : Th y) : ev c_is_fraction (.b1 .all e_is_fraction_1) [.val (.tup [x, y]), .no] S = some (.bl (isN x && isN y), S) := by
  have g1 := r_number (S := S) hx
  have g2 := r_number (S := S) hy
  simp [e_is_fraction_1, ev, evi, seqD, lcM, asg, wipeE, setV, evc, evs, c_is_fraction, g1, g2, b1D, blsD]
theorem r_fraction (h : Th d) : m_is_fraction [d] S = some (.bl (isF d), S) := by
  have hw := h.ws
  have gl := r_long (S := S) (n := 2) h
  cases d with
  | tup xs =>
    by_cases hl : xs.length = 2
    · obtain ⟨x, y, rfl⟩ := len2 hl
      have hx := h.row (x := x) (by simp)
      have hy := h.row (x := y) (by simp)
      have g2 := two_num (S := S) hx hy
      simp at gl
      by_cases hn : (isN x && isN y) = true
      · obtain ⟨n1, n2⟩ := Bool.and_eq_true_iff.mp hn
        cases x with
        | int a =>
          cases y with
          | int b =>
            rw [hn] at g2
            refine run_go rfl (sts_go (S1 := S) (en1 := [.val (.tup [.int a, .int b]), .no]) ?_ (sts_fin ?_))
            · have g3 : evt c_is_fraction (.b1 .all e_is_fraction_1) [.val (.tup [.int a, .int b]), .no] S = some (true, S) := by
                rw [ev, x_bnd] at g2
                rw [evt, x_bnd]
                revert g2
                cases ev c_is_fraction e_is_fraction_1 [.val (.tup [.int a, .int b]), .no] S with
                | none => intro g2; cases g2
                | some q =>
                  intro g2
                  obtain ⟨q1, q2⟩ := q
                  have g2 : M.opt (b1D .all q1) q2 = some (.bl true, S) := g2
                  obtain ⟨e1, rfl⟩ := opt_inv g2
                  show M.bnd (M.opt (b1D .all q1)) _ S = _
                  rw [e1]
                  rfl
              rw [st, x_bnd]
              have ec : evt c_is_fraction (.or (.not (.call 0 (.c (.var 0) (.c (.int 2) .n)))) (.not (.b1 .all e_is_fraction_1))) [.val (.tup [.int a, .int b]), .no] S = some (false, S) := by
                rw [evt, x_bnd, evt, x_bnd]
                have e1 : evt c_is_fraction (.call 0 (.c (.var 0) (.c (.int 2) .n))) [.val (.tup [.int a, .int b]), .no] S = some (true, S) := by simp [evt, evs, c_is_fraction, gl]
                rw [e1]
                simp only [x_ret, Bool.not_true, Bool.false_eq_true, if_false]
                rw [evt, x_bnd, g3]
                rfl
              rw [show startE N_is_fraction.length [D.tup [.int a, .int b]] = [.val (.tup [.int a, .int b]), .no] from rfl, ec]
              simp [sts]
            · by_cases hb : 1 ≤ b
              · have g4 := r_ratio (S := S) (x := a) (y := b) (by omega) (int_lim hx) (int_lim hy)
                rw [rt_pos (by omega)] at g4
                have e : isF (.tup [.int a, .int b]) = (Nat.gcd a.natAbs b.natAbs == 1) := by simp [isF, hb]
                rw [e]
                simp [ev, evs, c_is_fraction, hb, ra_eq, g4, lw_self hb]
              · have e : isF (.tup [.int a, .int b]) = false := by simp [isF, hb]
                rw [e]
                simp [ev, evs, c_is_fraction, hb]
          | _ => cases n2
        | _ => cases n1
      · have hn : (isN x && isN y) = false := by simpa using hn
        have e : isF (.tup [x, y]) = false := by
          cases x <;> cases y <;> first | rfl | (simp [isN] at hn)
        rw [e]
        rw [hn] at g2
        refine run_go (en := [.val (.tup [x, y]), .no]) rfl (sts_ret ?_)
        have g3 : evt c_is_fraction (.b1 .all e_is_fraction_1) [.val (.tup [x, y]), .no] S = some (false, S) := by
          rw [ev, x_bnd] at g2
          rw [evt, x_bnd]
          revert g2
          cases ev c_is_fraction e_is_fraction_1 [.val (.tup [x, y]), .no] S with
          | none => intro g2; cases g2
          | some q =>
            intro g2
            obtain ⟨q1, q2⟩ := q
            have g2 : M.opt (b1D .all q1) q2 = some (.bl false, S) := g2
            obtain ⟨e1, rfl⟩ := opt_inv g2
            show M.bnd (M.opt (b1D .all q1)) _ S = _
            rw [e1]
            rfl
        rw [st, x_bnd]
        have ec : evt c_is_fraction (.or (.not (.call 0 (.c (.var 0) (.c (.int 2) .n)))) (.not (.b1 .all e_is_fraction_1))) [.val (.tup [x, y]), .no] S = some (true, S) := by
          rw [evt, x_bnd, evt, x_bnd]
          have e1 : evt c_is_fraction (.call 0 (.c (.var 0) (.c (.int 2) .n))) [.val (.tup [x, y]), .no] S = some (true, S) := by simp [evt, evs, c_is_fraction, gl]
          rw [e1]
          simp only [x_ret, Bool.not_true, Bool.false_eq_true, if_false]
          rw [evt, x_bnd, g3]
          rfl
        rw [show startE N_is_fraction.length [D.tup [x, y]] = [.val (.tup [x, y]), .no] from rfl, ec]
        simp [sts, st, ev]
    · rw [isF_len hl]
      have hl2 : ¬ ((xs.length : Int) = 2) := by omega
      simp [hl2] at gl
      simp [m_is_fraction, Cv.run, b_is_fraction, N_is_fraction, c_is_fraction, sts, st, ev, evt, evs, startE, gl, hl2]
  | _ => first
    | (cases hw; done)
    | (simp at gl
       simp [m_is_fraction, Cv.run, b_is_fraction, N_is_fraction, c_is_fraction, sts, st, ev, evt, evs, startE, gl, isF])
theorem Th.two {x y : D} (h : Th (.tup [x, y])) (p : D → Bool) : shp (.lst ([x, y].filter p)) = true := by
  have r := Gd'.row (p := 59) h
  have g : Gs (2 ^ 300) 8000 59 ([x, y].filter p) := by
    have hx := Gs.mem r (x := x) (by simp)
    have hy := Gs.mem r (x := y) (by simp)
    refine ⟨wss_all.mpr fun z hz => wss_all.mp r.ws z (List.mem_filter.mp hz).1, ?_, ?_⟩
    · have hb := r.bk
      have hb : x.py.bulk + 1 + (y.py.bulk + 1 + 0) ≤ 8000 := hb
      cases h1 : p x <;> cases h2 : p y <;> simp [List.filter, h1, h2, D.pys, PyData.bulkAll] <;> omega
    · have hd := r.dp
      have hd : max x.py.depth (max y.py.depth 0) ≤ 59 := hd
      cases h1 : p x <;> cases h2 : p y <;> simp [List.filter, h1, h2, D.pys, PyData.depthAll] <;> omega
  exact (g.lst).shp (by decide) (by decide)
def isC (d : D) : Bool := isF d && match d with
  | .tup [.int a, .int b] => decide (0 ≤ a) && decide (a ≤ b)
  | _ => false
theorem isF_two {d : D} (h : isF d = true) : ∃ a b, d = .tup [.int a, .int b] := by
  unfold isF at h
  split at h
  · exact ⟨_, _, rfl⟩
  · cases h
theorem r_chance (h : Th d) : m_is_chance [d] S = some (.bl (isC d), S) := by
  have gf := r_fraction (S := S) h
  cases hf : isF d with
  | false =>
    rw [hf] at gf
    have e : isC d = false := by unfold isC; rw [hf]; rfl
    rw [e]
    simp [m_is_chance, Cv.run, b_is_chance, N_is_chance, c_is_chance, sts, st, ev, evs, startE, gf]
  | true =>
    rw [hf] at gf
    obtain ⟨a, b, rfl⟩ := isF_two hf
    have e : isC (.tup [.int a, .int b]) = (decide (0 ≤ a) && decide (a ≤ b)) := by unfold isC; rw [hf]; rfl
    rw [e]
    by_cases h1 : 0 ≤ a <;> simp [m_is_chance, Cv.run, b_is_chance, N_is_chance, c_is_chance, sts, st, ev, evs, startE, gf, h1]
def isA : D → Bool
  | .tup [x, .tup ys] => isW x && !ys.isEmpty && ys.all isT
  | _ => false
theorem isA_len {xs : List D} (h : xs.length ≠ 2) : isA (.tup xs) = false := by
  match xs, h with
  | [], _ => simp [isA]
  | [_], _ => simp [isA]
  | [_, _], h => exact absurd rfl h
  | _ :: _ :: _ :: _, _ => simp [isA]
theorem terms_all {x : D} {ys : List D} (hy : Th (.tup ys)) : ev c_is_atom e_is_atom_1 [.val (.tup [x, .tup ys]), .no] S = some (.lst (ys.map fun y => D.bl (isT y)), S) := by
  have := lcm_map (S0 := S) (f := fun y : D => y) (h := D.bl) (t := fun d => M.bnd (M.opt (asg (.nm 1) d (wipeE [.val (.tup [x, .tup ys]), .no] [1]))) fun en2 => evc c_is_atom .n en2)
    (el := fun d => M.bnd (M.opt (asg (.nm 1) d (wipeE [.val (.tup [x, .tup ys]), .no] [1]))) fun en2 => ev c_is_atom (.call 2 (.c (.var 1) .n)) en2) isT ys fun y hm => by
      have gt := r_term (S := S) (hy.row hm)
      refine ⟨by simp [asg, wipeE, setV, evc], ?_⟩
      simp [asg, wipeE, setV, ev, evs, c_is_atom, gt]
  rw [List.map_id'] at this
  have ei : evi c_is_atom (.sq (.idx (.var 0) (.int 1))) [.val (.tup [x, .tup ys]), .no] S = some (ys, S) := by simp [evi, ev, seqD]
  rw [e_is_atom_1, ev, x_bnd, ei]
  show M.bnd (lcM _ _ _) _ S = _
  rw [x_bnd, this]
  rfl
theorem r_atom (h : Th d) : m_is_atom [d] S = some (.bl (isA d), S) := by
  have hw := h.ws
  have gl := r_long (S := S) (n := 2) h
  cases d with
  | tup xs =>
    by_cases hl : xs.length = 2
    · obtain ⟨x, y, rfl⟩ := len2 hl
      have hx := h.row (x := x) (by simp)
      have hy := h.row (x := y) (by simp)
      have gw := r_word (S := S) hx
      have hyw := hy.ws
      simp at gl
      cases hxw : isW x with
      | false =>
        rw [hxw] at gw
        have e : isA (.tup [x, y]) = false := by cases y <;> simp [isA, hxw]
        rw [e]
        refine run_go (en := [.val (.tup [x, y]), .no]) rfl (sts_ret ?_)
        simp [st, sts, ev, evt, evs, startE, N_is_atom, c_is_atom, gl, gw]
      | true =>
        rw [hxw] at gw
        by_cases hy2 : ∃ ys, y = .tup ys
        · obtain ⟨ys, rfl⟩ := hy2
          by_cases hys : ys = []
          · subst hys
            have e : isA (.tup [x, .tup []]) = false := by simp [isA]
            rw [e]
            refine run_go (en := [.val (.tup [x, .tup []]), .no]) rfl (sts_ret ?_)
            simp [st, sts, ev, evt, evs, startE, N_is_atom, c_is_atom, gl, gw]
          · have h0 : ¬ (ys.length = 0) := fun z => hys (List.eq_nil_of_length_eq_zero z)
            have e : isA (.tup [x, .tup ys]) = ys.all isT := by simp [isA, hxw, hys]
            rw [e]
            refine run_go rfl (sts_go (S1 := S) (en1 := [.val (.tup [x, .tup ys]), .no]) ?_ (sts_fin ?_))
            · simp [st, sts, ev, evt, evs, startE, N_is_atom, c_is_atom, gl, gw, h0, hys]
            · rw [ev, x_bnd, terms_all hy]
              simp only [all_map, x_opt]
        · have hi : isiD y "tuple" = some false := by
            cases y <;> first | (cases hyw; done) | rfl | exact absurd ⟨_, rfl⟩ hy2
          have e : isA (.tup [x, y]) = false := by
            cases y <;> first | rfl | (simp [isA]; done) | exact absurd ⟨_, rfl⟩ hy2
          rw [e]
          refine run_go (en := [.val (.tup [x, y]), .no]) rfl (sts_ret ?_)
          simp [st, sts, ev, evt, evs, startE, N_is_atom, c_is_atom, gl, gw, hi]
    · rw [isA_len hl]
      have hl2 : ¬ ((xs.length : Int) = 2) := by omega
      simp [hl2] at gl
      simp [m_is_atom, Cv.run, b_is_atom, N_is_atom, c_is_atom, sts, st, ev, evt, evs, startE, gl, hl2]
  | _ => first
    | (cases hw; done)
    | (simp at gl
       simp [m_is_atom, Cv.run, b_is_atom, N_is_atom, c_is_atom, sts, st, ev, evt, evs, startE, gl, isA])
theorem bulk_filter (p : D → Bool) : ∀ ys : List D, PyData.bulkAll (D.pys (ys.filter p)) ≤ PyData.bulkAll (D.pys ys) ∧ PyData.depthAll (D.pys (ys.filter p)) ≤ PyData.depthAll (D.pys ys)
  | [] => ⟨Nat.le_refl _, Nat.le_refl _⟩
  | y :: ys => by
    obtain ⟨h1, h2⟩ := bulk_filter p ys
    have e1 : PyData.bulkAll (D.pys (y :: ys)) = y.py.bulk + 1 + PyData.bulkAll (D.pys ys) := rfl
    have e2 : PyData.depthAll (D.pys (y :: ys)) = max y.py.depth (PyData.depthAll (D.pys ys)) := rfl
    rw [e1, e2, List.filter_cons]
    split
    · show y.py.bulk + 1 + _ ≤ _ ∧ max y.py.depth _ ≤ _
      omega
    · omega
theorem Th.filt {ys : List D} (h : Th (.tup ys)) (p : D → Bool) : shp (.lst (ys.filter p)) = true := by
  have r := Gd'.row (p := 59) h
  obtain ⟨b1, b2⟩ := bulk_filter p ys
  have g : Gs (2 ^ 300) 8000 59 (ys.filter p) := ⟨wss_all.mpr fun z hz => wss_all.mp r.ws z (List.mem_filter.mp hz).1, Nat.le_trans b1 r.bk, Nat.le_trans b2 r.dp⟩
  exact (g.lst).shp (by decide) (by decide)
theorem filt_emp (p : D → Bool) (l : List D) : (l.filter fun c => !p c).isEmpty = l.all p := by
  induction l with
  | nil => rfl
  | cons c l ih =>
    rw [List.filter_cons, List.all_cons]
    cases h : p c <;> simp [ih]
end
def small (N b p : Nat) (x : D) : Bool := x.ws N && decide (x.py.bulk ≤ b) && decide (x.py.depth ≤ p)
theorem small_ok {N b p : Nat} {x : D} (h : small N b p x = true) : Gd' N b p x := by
  unfold small at h
  simp only [Bool.and_eq_true, decide_eq_true_eq] at h
  exact ⟨h.1.1, h.1.2, h.2⟩
theorem line_of {n : Nat} (h : n ≤ 16000000) : n ≤ sizeLine := by rw [sizeLine_eq]; omega
theorem gs_rev {N b p : Nat} {xs : List D} (h : Gs N b p xs) : Gs N b p xs.reverse := by
  have hb : ∀ ys : List D, PyData.bulkAll (D.pys ys.reverse) = PyData.bulkAll (D.pys ys) ∧ PyData.depthAll (D.pys ys.reverse) = PyData.depthAll (D.pys ys) := by
    intro ys
    induction ys with
    | nil => exact ⟨rfl, rfl⟩
    | cons y ys ih =>
      rw [List.reverse_cons, bulk_app, depth_app, ih.1, ih.2]
      refine ⟨?_, ?_⟩
      · show _ + (y.py.bulk + 1 + 0) = y.py.bulk + 1 + _
        omega
      · show max _ (max y.py.depth 0) = max y.py.depth _
        omega
  exact ⟨wss_all.mpr fun x hx => wss_all.mp h.ws x (List.mem_reverse.mp hx), by rw [(hb xs).1]; exact h.bk, by rw [(hb xs).2]; exact h.dp⟩
section
variable {g : Cf} {N b p : Nat} {xs : List D} {S : Sto} {x0 x2 x4 : Sl} {k : Nat}
theorem v_to : ev g (.sli (.var 1) .n (.s (.var 3))) [x0, .val (.tup xs), x2, .val (.int k), x4] S = some (.tup (xs.take k), S) := by
  have e : sliD (.tup xs) none (some (k : Int)) = some (.tup (cutD xs none (some (k : Int)))) := rfl
  rw [cut_to xs (by omega), Int.toNat_natCast] at e
  simp [ev, evo, e]
theorem v_from : ev g (.sli (.var 1) (.s (.var 3)) .n) [x0, .val (.tup xs), x2, .val (.int k), x4] S = some (.tup (xs.drop k), S) := by
  have e : sliD (.tup xs) (some (k : Int)) none = some (.tup (cutD xs (some (k : Int)) none)) := rfl
  rw [cut_from xs (by omega), Int.toNat_natCast] at e
  simp [ev, evo, e]
theorem v_from1 : ev g (.sli (.var 1) (.s (.bin .add (.var 3) (.int 1))) .n) [x0, .val (.tup xs), x2, .val (.int k), x4] S = some (.tup (xs.drop (k + 1)), S) := by
  have e : sliD (.tup xs) (some ((k : Int) + 1)) none = some (.tup (cutD xs (some ((k : Int) + 1)) none)) := rfl
  rw [cut_from xs (by omega), show ((k : Int) + 1).toNat = k + 1 by omega] at e
  simp [ev, evo, e]
theorem v_one : ev g (.sli (.var 1) (.s (.var 3)) (.s (.bin .add (.var 3) (.int 1)))) [x0, .val (.tup xs), x2, .val (.int k), x4] S = some (.tup ((xs.drop k).take 1), S) := by
  have e : sliD (.tup xs) (some (k : Int)) (some ((k : Int) + 1)) = some (.tup (cutD xs (some (k : Int)) (some ((k : Int) + 1)))) := rfl
  rw [cut_mid xs (by omega) (by omega), Int.toNat_natCast, show ((k : Int) + 1 - k).toNat = 1 by omega] at e
  simp [ev, evo, e]
end
theorem len_sz {N b p : Nat} {xs : List D} (h : Gs N b p xs) : xs.length ≤ b := Nat.le_trans (bulk_len xs) h.bk
theorem digits_small (n : Nat) : ∀ c ∈ (Nat.repr n).toList, c.toNat < 128 := by
  intro c hc
  have hc : c ∈ Nat.toDigits 10 n := by
    unfold Nat.repr at hc
    simpa using hc
  have h := Nat.isDigit_of_mem_toDigits (by decide) (by decide) hc
  simp [Char.isDigit] at h
  have h2 : c.val.toNat ≤ 57 := h.2
  show c.val.toNat < 128
  omega
theorem int_text (i : Int) : ((Str.ofString (toString i)).cps.toList.all fun c => decide (c < 128)) = true := by
  rw [List.all_eq_true]
  intro x hx
  rw [Str.ofString_eq_toList] at hx
  have hx : x ∈ ((toString i).toList.map Char.toNat) := by simpa using hx
  obtain ⟨c, hc, rfl⟩ := List.mem_map.mp hx
  apply decide_eq_true
  cases i with
  | ofNat m => exact digits_small m c hc
  | negSucc m =>
    have e : toString (Int.negSucc m) = "-" ++ Nat.repr (m + 1) := rfl
    rw [e, String.toList_append] at hc
    rcases List.mem_append.mp hc with z | z
    · have : c = '-' := by simpa using z
      rw [this]; decide
    · exact digits_small _ c z
theorem int_text_len {i : Int} (h : i.natAbs ≤ 2 ^ 299) : (Str.ofString (toString i)).cps.size ≤ 301 := by
  have h2 : i.natAbs.log2 < 300 := by
    by_cases h0 : i.natAbs = 0
    · rw [h0]; decide
    · exact (Nat.log2_lt h0).mpr (Nat.lt_of_le_of_lt h (by decide))
  have e := int_text_length_le (a := i) (k := 300) (by decide) h2
  have e2 : (Str.ofString (toString i)).cps.size = (Str.ofString (toString i)).length := rfl
  rw [e2, ofString_length]
  exact e
theorem up_small : (List.range 128).all (fun c => (Unicode.upperOf c).all fun d => decide (d < 128)) = true := by decide +kernel
theorem up_text {s : Str} (h : (s.cps.toList.all fun c => decide (c < 128)) = true) : ((Txt.upper s).cps.toList.all fun c => decide (c < 128)) = true := by
  rw [List.all_eq_true] at h ⊢
  intro x hx
  have hx : x ∈ (s.cps.mapIdx fun i c => (Unicode.upperOf c).toArray).flatten := by
    have : x ∈ (Txt.upper s).cps := by simpa using hx
    exact this
  obtain ⟨l, hl, hxl⟩ := Array.mem_flatten.mp hx
  obtain ⟨i, hi, rfl⟩ := Array.mem_mapIdx.mp hl
  have hc := of_decide_eq_true (h s.cps[i] (by simp))
  have := List.all_eq_true.mp up_small s.cps[i] (List.mem_range.mpr hc)
  exact List.all_eq_true.mp this x (by simpa using hxl)
theorem up_len (s : Str) : (Txt.upper s).cps.size ≤ 3 * s.cps.size := PyProof.Rows.placed_le3 s _ fun _ c => PySem.StrLaws.upperOf_le3 c

end Cv.Kp

/-! Cv20: reckoning without the store: what does not look at it. -/
namespace Cv
open PySem
section
variable {α β γ : Type} {g : Cf} {en : En}
theorem z_rb (a : α) (f : α → M β) : M.bnd (M.ret a) f = f a := (rfl)
theorem z_bb (m : M α) (f : α → M β) (h : β → M γ) : M.bnd (M.bnd m f) h = M.bnd m fun a => M.bnd (f a) h := by
  funext S
  simp only [M.bnd]
  cases m S <;> rfl
theorem z_br (m : M α) : M.bnd m M.ret = m := by
  funext S
  simp only [M.bnd]
  cases m S <;> rfl
theorem z_os (a : α) : M.opt (some a) = M.ret a := (rfl)
theorem z_on : M.opt (none : Option α) = M.no := (rfl)
theorem z_nb (f : α → M β) : M.bnd M.no f = M.no := (rfl)
theorem z_I (i : Int) : isI (.int i) = M.ret i := (rfl)
theorem z_B (i : Bool) : isB (.bl i) = M.ret i := (rfl)
theorem z_O (i : Nat) : isO (.obj i) = M.ret i := (rfl)
theorem z_L (i : List D) : isL (.lst i) = M.ret i := (rfl)
theorem z_ib {c : Prop} [Decidable c] (a b : M α) (f : α → M β) : M.bnd (if c then a else b) f = if c then M.bnd a f else M.bnd b f := by split <;> rfl
theorem z_oi {c : Prop} [Decidable c] (a b : Option α) : M.opt (if c then a else b) = if c then M.opt a else M.opt b := by split <;> rfl
theorem z_app (a : α) (S : Sto) : M.ret a S = some (a, S) := (rfl)
/-- a comprehension over what stands for things -/
def lcT (t : α → M Bool) (e : α → M D) : List α → M (List D)
  | [] => M.ret []
  | x :: xs => M.bnd (t x) fun b => if b then M.bnd (e x) fun y => M.bnd (lcT t e xs) fun ys => M.ret (y :: ys) else lcT t e xs
theorem z_lc {f : α → D} {t : D → M Bool} {e : D → M D} : ∀ xs : List α, lcM t e (xs.map f) = lcT (fun a => t (f a)) (fun a => e (f a)) xs
  | [] => rfl
  | x :: xs => by
    show M.bnd (t (f x)) (fun b => if b then M.bnd (e (f x)) fun y => M.bnd (lcM t e (xs.map f)) fun ys => M.ret (y :: ys) else lcM t e (xs.map f)) = _
    rw [z_lc xs]
    rfl
theorem z_lcF (p : α → Bool) (h : α → D) : ∀ xs : List α, lcT (fun a => M.ret (p a)) (fun a => M.ret (h a)) xs = M.ret ((xs.filter p).map h)
  | [] => rfl
  | x :: xs => by
    rw [lcT, z_rb, z_lcF p h xs]
    cases e : p x <;> simp [List.filter, e, z_rb]
theorem z_lcA (h : α → D) : ∀ xs : List α, lcT (fun _ => M.ret true) (fun a => M.ret (h a)) xs = M.ret (xs.map h)
  | [] => rfl
  | x :: xs => by
    rw [lcT, z_rb, z_lcA h xs]
    rfl
theorem z_lcC {xs ys : List α} {t t' : α → M Bool} {e e' : α → M D} (hx : xs = ys) (ht : ∀ a ∈ ys, t a = t' a) (he : ∀ a ∈ ys, e a = e' a) : lcT t e xs = lcT t' e' ys := by
  subst hx
  induction xs with
  | nil => rfl
  | cons x xs ih =>
    rw [lcT, lcT, ht x List.mem_cons_self, he x List.mem_cons_self, ih (fun a h => ht a (List.mem_cons_of_mem _ h)) (fun a h => he a (List.mem_cons_of_mem _ h))]
theorem z_lcI (p : D → Bool) : ∀ xs : List D, lcT (fun a => M.ret (p a)) (fun a => M.ret a) xs = M.ret (xs.filter p)
  | [] => rfl
  | x :: xs => by
    rw [lcT, z_rb, z_lcI p xs]
    cases e : p x <;> simp [List.filter, e, z_rb]
def catT (t : α → M Bool) (e : α → M (List D)) : List α → M (List D)
  | [] => M.ret []
  | x :: xs => M.bnd (t x) fun b => if b then M.bnd (e x) fun ys => M.bnd (catT t e xs) fun zs => M.ret (ys ++ zs) else catT t e xs
theorem z_cat {f : α → D} {t : D → M Bool} {e : D → M (List D)} : ∀ xs : List α, catM t e (xs.map f) = catT (fun a => t (f a)) (fun a => e (f a)) xs
  | [] => rfl
  | x :: xs => by
    show M.bnd (t (f x)) (fun b => if b then M.bnd (e (f x)) fun y => M.bnd (catM t e (xs.map f)) fun ys => M.ret (y ++ ys) else catM t e (xs.map f)) = _
    rw [z_cat xs]
    rfl
theorem z_catA (h : α → List D) : ∀ xs : List α, catT (fun _ => M.ret true) (fun a => M.ret (h a)) xs = M.ret (xs.flatMap h)
  | [] => rfl
  | x :: xs => by
    rw [catT, z_rb, z_catA h xs]
    rfl
theorem z_catF (p : α → Bool) (h : α → List D) : ∀ xs : List α, catT (fun a => M.ret (p a)) (fun a => M.ret (h a)) xs = M.ret ((xs.filter p).flatMap h)
  | [] => rfl
  | x :: xs => by
    rw [catT, z_rb, z_catF p h xs]
    cases e : p x <;> simp [List.filter, e, z_rb]
theorem z_catC {xs ys : List α} {t t' : α → M Bool} {e e' : α → M (List D)} (hx : xs = ys) (ht : ∀ a ∈ ys, t a = t' a) (he : ∀ a ∈ ys, e a = e' a) : catT t e xs = catT t' e' ys := by
  subst hx
  induction xs with
  | nil => rfl
  | cons x xs ih =>
    rw [catT, catT, ht x List.mem_cons_self, he x List.mem_cons_self, ih (fun a h => ht a (List.mem_cons_of_mem _ h)) (fun a h => he a (List.mem_cons_of_mem _ h))]
/-- a loop that folds: E tells the frame -/
theorem z_for {σ : Type} (E : σ → En) (F : σ → α → σ) {f : α → D} {a : D → En → M En} {b : En → M (Fl × En)} : ∀ (xs : List α) (s : σ), (∀ (l : List α) (x : α) (r : List α), xs = l ++ x :: r → M.bnd (a (f x) (E (l.foldl F s))) b = M.ret (.nx, E (F (l.foldl F s) x))) →
    forM a b (xs.map f) (E s) = M.ret (.nx, E (xs.foldl F s))
  | [], s, _ => rfl
  | x :: xs, s, h => by
    have h0 := h [] x xs rfl
    have ih := z_for E F (a := a) (b := b) xs (F s x) fun l y r e => h (x :: l) y r (by rw [e]; rfl)
    show M.bnd (a (f x) (E s)) (fun en1 => M.bnd (b en1) fun r => match r.1 with
      | .nx => forM a b (xs.map f) r.2
      | .ct => forM a b (xs.map f) r.2
      | .brk => M.ret (.nx, r.2)
      | .ret d => M.ret (.ret d, r.2)) = _
    rw [← z_bb, show M.bnd (a (f x) (E s)) b = M.ret (.nx, E (F s x)) from h0, z_rb]
    exact ih
/-- .. with what holds behind each part -/
theorem z_forR {α : Type} {f : α → D} {a : D → En → M En} {b : En → M (Fl × En)} {ps : List α} (I : List α → En → Prop) (hb : ∀ (l : List α) (x : α) (r : List α) (en : En), ps = l ++ x :: r → I l en → ∃ en', M.bnd (a (f x) en) b = M.ret (.nx, en') ∧ I (l ++ [x]) en') :
    ∀ (xs l : List α) (en : En), ps = l ++ xs → I l en → ∃ en', forM a b (xs.map f) en = M.ret (.nx, en') ∧ I ps en'
  | [], l, en, hp, h => ⟨en, rfl, by rw [hp, List.append_nil]; exact h⟩
  | x :: xs, l, en, hp, h => by
    obtain ⟨en1, e1, h1⟩ := hb l x xs en hp h
    obtain ⟨en', e2, h2⟩ := z_forR I hb xs (l ++ [x]) en1 (by rw [hp]; simp) h1
    refine ⟨en', ?_, h2⟩
    show M.bnd (a (f x) en) (fun en1 => M.bnd (b en1) fun r => match r.1 with
      | .nx => forM a b (xs.map f) r.2
      | .ct => forM a b (xs.map f) r.2
      | .brk => M.ret (.nx, r.2)
      | .ret d => M.ret (.ret d, r.2)) = _
    rw [← z_bb, e1, z_rb]
    exact e2
/-- a comprehension that draws -/
theorem lcm_draw {β : Type} {f : β → D} {Q : β → Prop} {t : D → M Bool} {e : D → M D} (I : Nat → Sto → Prop) (N : Nat) (h : ∀ (x : D) (n : Nat) (S : Sto), n < N → I n S → t x S = some (true, S) ∧ ∃ (y : β) (S' : Sto), e x S = some (f y, S') ∧ Q y ∧ I (n + 1) S') :
    ∀ (xs : List D) (n : Nat) (S : Sto), n + xs.length ≤ N → I n S → ∃ (ys : List β) (S' : Sto), lcM t e xs S = some (ys.map f, S') ∧ (∀ y ∈ ys, Q y) ∧ ys.length = xs.length ∧ I (n + xs.length) S'
  | [], n, S, _, hi => ⟨[], S, rfl, (fun _ q => nomatch q), rfl, hi⟩
  | x :: xs, n, S, hn, hi => by
    rw [List.length_cons] at hn
    obtain ⟨h1, y, S1, h2, q, i1⟩ := h x n S (by omega) hi
    obtain ⟨ys, S2, h3, qs, hl, i2⟩ := lcm_draw I N h xs (n + 1) S1 (by omega) i1
    refine ⟨y :: ys, S2, lcm_go h1 h2 h3, fun z hz => ?_, by rw [List.length_cons, hl, List.length_cons], by rw [List.length_cons, show n + (xs.length + 1) = n + 1 + xs.length by omega]; exact i2⟩
    rcases List.mem_cons.mp hz with r | r
    · rw [r]; exact q
    · exact qs z r
theorem sts_ret' {g : Cf} {s : S} {en en1 : En} {S0 S1 : Sto} (h1 : st g s en S0 = some ((.nx, en1), S1)) : sts g [s] en S0 = some ((.nx, en1), S1) := sts_go h1 sts_end
theorem ev_lc1 {g : Cf} {own : List Nat} {t : Tg} {it : Wi} {c : Oe} {e : E} {en : En} {S S1 S2 : Sto} {ds ys : List D} (h1 : evi g it en S = some (ds, S1))
    (h2 : lcM (fun d => M.bnd (M.opt (asg t d (wipeE en own))) fun en2 => evc g c en2) (fun d => M.bnd (M.opt (asg t d (wipeE en own))) fun en2 => ev g e en2) ds S1 = some (ys, S2)) : ev g (.lc1 own t it c e) en S = some (.lst ys, S2) := by
  rw [ev, x_bnd, h1]
  show M.bnd (lcM _ _ _) _ S1 = _
  rw [x_bnd, h2]
  rfl
theorem ev_b1 {g : Cf} {f : B1} {a : E} {en : En} {S S1 : Sto} {x y : D} (h1 : ev g a en S = some (x, S1)) (h2 : b1D f x = some y) : ev g (.b1 f a) en S = some (y, S1) := by
  rw [ev, x_bnd, h1]
  show M.opt (b1D f x) S1 = _
  rw [h2]
  rfl
end
theorem z_ev {g : Cf} {en : En} : (∀ i, ev g (.int i) en = M.ret (.int i)) ∧ (∀ i, ev g (.str i) en = M.ret (.str i)) ∧ (∀ i, ev g (.bl i) en = M.ret (.bl i)) ∧ ev g .non en = M.ret .non := ⟨fun _ => rfl, fun _ => rfl, fun _ => rfl, rfl⟩
theorem line1 (a b : Nat) : (Str.length ⟨#[a]⟩ + Str.length ⟨#[b]⟩ ≤ sizeLine) = True := by
  rw [sizeLine_eq]
  exact eq_true (by show 1 + 1 ≤ 16777216; decide)
theorem z_nx {en : En} {α : Type} (f : Fl × En → M α) : M.bnd (M.ret (Fl.nx, en)) f = f (Fl.nx, en) := (rfl)
theorem asgC (i : Nat) (d : D) (x : Sl) (en : En) : asg (.nm i) d (x :: en) = if i < (x :: en).length then some (setV (x :: en) i d) else none := (rfl)
theorem asg2C (a b : Tg) (x y : D) (en : En) : asg (.tp2 a b) (.tup [x, y]) en = (asg a x en).bind (asg b y) := (rfl)
theorem asg3C (a b c : Tg) (x y z : D) (en : En) : asg (.tp3 a b c) (.tup [x, y, z]) en = ((asg a x en).bind (asg b y)).bind (asg c z) := (rfl)
theorem asg4C (a b c e : Tg) (x y z w : D) (en : En) : asg (.tp4 a b c e) (.tup [x, y, z, w]) en = (((asg a x en).bind (asg b y)).bind (asg c z)).bind (asg e w) := (rfl)
theorem z_ft {α : Type} (xs : List α) : xs.filter (fun _ => true) = xs := by simp
theorem z_lcD {t : D → M Bool} {e : D → M D} : ∀ xs : List D, lcM t e xs = lcT t e xs
  | [] => rfl
  | x :: xs => by
    show M.bnd (t x) (fun b => if b then M.bnd (e x) fun y => M.bnd (lcM t e xs) fun ys => M.ret (y :: ys) else lcM t e xs) = _
    rw [z_lcD xs]
    rfl
theorem z_lcM {α β : Type} {f : β → α} {t : α → M Bool} {e : α → M D} : ∀ xs : List β, lcT t e (xs.map f) = lcT (fun a => t (f a)) (fun a => e (f a)) xs
  | [] => rfl
  | x :: xs => by
    rw [List.map_cons, lcT, z_lcM xs]
    rfl
theorem z_catD {t : D → M Bool} {e : D → M (List D)} : ∀ xs : List D, catM t e xs = catT t e xs
  | [] => rfl
  | x :: xs => by
    show M.bnd (t x) (fun b => if b then M.bnd (e x) fun y => M.bnd (catM t e xs) fun ys => M.ret (y ++ ys) else catM t e xs) = _
    rw [z_catD xs]
    rfl
theorem z_catM {α β : Type} {f : β → α} {t : α → M Bool} {e : α → M (List D)} : ∀ xs : List β, catT t e (xs.map f) = catT (fun a => t (f a)) (fun a => e (f a)) xs
  | [] => rfl
  | x :: xs => by
    rw [List.map_cons, catT, z_catM xs]
    rfl
/-- a comprehension, item by item -/
theorem lcT_eq {α : Type} {t : α → M Bool} {e : α → M D} (p : α → Bool) (h : α → D) {xs : List α} (ht : ∀ a ∈ xs, t a = M.ret (p a)) (he : ∀ a ∈ xs, p a = true → e a = M.ret (h a)) : lcT t e xs = M.ret ((xs.filter p).map h) := by
  induction xs with
  | nil => rfl
  | cons x xs ih =>
    rw [lcT, ht x List.mem_cons_self, z_rb, ih (fun a q => ht a (List.mem_cons_of_mem _ q)) (fun a q => he a (List.mem_cons_of_mem _ q))]
    cases hp : p x with
    | true =>
      rw [he x List.mem_cons_self hp]
      simp [List.filter, hp, z_rb]
    | false => simp [List.filter, hp, z_rb]
theorem lcT_all {α : Type} {t : α → M Bool} {e : α → M D} (h : α → D) {xs : List α} (ht : ∀ a ∈ xs, t a = M.ret true) (he : ∀ a ∈ xs, e a = M.ret (h a)) : lcT t e xs = M.ret (xs.map h) := by
  rw [lcT_eq (fun _ => true) h ht fun a q _ => he a q, z_ft]
theorem catT_eq {α : Type} {t : α → M Bool} {e : α → M (List D)} (p : α → Bool) (h : α → List D) {xs : List α} (ht : ∀ a ∈ xs, t a = M.ret (p a)) (he : ∀ a ∈ xs, p a = true → e a = M.ret (h a)) : catT t e xs = M.ret ((xs.filter p).flatMap h) := by
  induction xs with
  | nil => rfl
  | cons x xs ih =>
    rw [catT, ht x List.mem_cons_self, z_rb, ih (fun a q => ht a (List.mem_cons_of_mem _ q)) (fun a q => he a (List.mem_cons_of_mem _ q))]
    cases hp : p x with
    | true =>
      rw [he x List.mem_cons_self hp]
      simp [List.filter, hp, z_rb]
    | false => simp [List.filter, hp, z_rb]
theorem catT_all {α : Type} {t : α → M Bool} {e : α → M (List D)} (h : α → List D) {xs : List α} (ht : ∀ a ∈ xs, t a = M.ret true) (he : ∀ a ∈ xs, e a = M.ret (h a)) : catT t e xs = M.ret (xs.flatMap h) := by
  rw [catT_eq (fun _ => true) h ht fun a q _ => he a q, z_ft]
end Cv

/-! Cw1: additions: dict.get, min, max, join, index, {}, {k: v}. -/
namespace Cv
open PySem PySem.Spec PyProof.Rows L2
/-! ### the operands, one by one -/
theorem seq_cons {β : Type} (m : En → M D) (ms : List (En → M D)) (en : En) (F : List D → M β) : M.bnd (seqM (m :: ms) en) F = M.bnd (m en) fun d => M.bnd (seqM ms en) fun ds => F (d :: ds) := by
  funext S
  show M.bnd (M.bnd (m en) fun d => M.bnd (seqM ms en) fun ds => M.ret (d :: ds)) F S = _
  unfold M.bnd
  cases m en S with
  | none => rfl
  | some p =>
    obtain ⟨d, S1⟩ := p
    simp only []
    cases seqM ms en S1 with
    | none => rfl
    | some q => rfl
theorem seq_nil {β : Type} (en : En) (F : List D → M β) : M.bnd (seqM [] en) F = F [] := rfl
section
variable {K : Kx} {β γ : Type} {m : En → M D} {ms : List (En → M D)} {F : List D → M β} {R : Wd → γ → β → Prop} {Q : γ → Hp → Prop} {σ : L2.St} {W0 W : Wd} {en : En}
theorem at_seq (ok : W.Ok K) (eo : EnOk K W0 W en σ) (h : Yl K W (M.bnd (seqM (m :: ms) en) F) R Q) {Q1 : VK}
    (n : ∀ W1 v d, Le W W1 → W1.Ok K → EnOk K W0 W1 en σ → W1.Rp K v d → Yl K W1 (M.bnd (seqM ms en) fun ds => F (d :: ds)) R Q → Q1 v W1.H) : tM K m σ W.H Q1 := by
  rw [seq_cons] at h
  obtain ⟨_, d, S1, e1, rest⟩ := yl_bnd (R := fun _ (_ : Unit) _ => True) h
  exact ⟨W0, W, en, rfl, ok, eo, d, S1, e1, fun W1 l1 ok1 es1 v r => n W1 v d l1 ok1 (eo.le l1) r (rest W1 l1 ok1 es1)⟩
theorem at_seqR (ok : W.Ok K) (eo : EnOk K W0 W en σ) (h : Yl K W (M.bnd (seqM (m :: ms) en) F) R Q) {Q1 : VK}
    (n : ∀ W1 v d, Le W W1 → W1.Ok K → EnOk K W0 W1 en σ → Rd K W1 v d → Yl K W1 (M.bnd (seqM ms en) fun ds => F (d :: ds)) R Q → Q1 v W1.H) : tR K m σ W.H Q1 := by
  rw [seq_cons] at h
  obtain ⟨_, d, S1, e1, rest⟩ := yl_bnd (R := fun _ (_ : Unit) _ => True) h
  exact ⟨W0, W, en, rfl, ok, eo, d, S1, e1, fun W1 l1 ok1 es1 v r => n W1 v d l1 ok1 (eo.le l1) r (rest W1 l1 ok1 es1)⟩
end
section
variable {X : Cx} {ms : List (En → M D)} {b1 b2 b3 : Bool} {x y w : Expr}
theorem ops1 (h : OpsOk X [b1] [x] ms) : ∃ m, ms = [m] ∧ OpK X b1 x m := by
  match ms, h with
  | [m], h => exact ⟨m, rfl, h.1⟩
theorem ops2 (h : OpsOk X [b1, b2] [x, y] ms) : ∃ m m2, ms = [m, m2] ∧ OpK X b1 x m ∧ OpK X b2 y m2 := by
  match ms, h with
  | [m, m2], h => exact ⟨m, m2, rfl, h.1, h.2.1⟩
theorem ops3 (h : OpsOk X [b1, b2, b3] [x, y, w] ms) : ∃ m m2 m3, ms = [m, m2, m3] ∧ OpK X b1 x m ∧ OpK X b2 y m2 ∧ OpK X b3 w m3 := by
  match ms, h with
  | [m, m2, m3], h => exact ⟨m, m2, m3, rfl, h.1, h.2.1, h.2.2.1⟩
end
/-! ### o.m(a), o.m(a, b) -/
def vMeth2 : Expr → Option (Expr × Str × Expr × Expr × Pos × Pos)
  | .Call (.Attribute o m p) [a, b] [] q => some (o, m, a, b, p, q)
  | _ => none
theorem vMeth2_ok {e o a b : Expr} {m : Str} {p q : Pos} (h : vMeth2 e = some (o, m, a, b, p, q)) : e = .Call (.Attribute o m p) [a, b] [] q := by
  unfold vMeth2 at h
  split at h
  · cases h; rfl
  · cases h
def mtM1 (n : Str) (e : Expr) : Option (List Expr) := match vMeth1 e with
  | some (o, m, a, p, q) => if decide (m = n) && plainO o && noStar a && (p.endLine == q.line) then some [o, a] else none
  | none => none
def mtM2 (n : Str) (e : Expr) : Option (List Expr) := match vMeth2 e with
  | some (o, m, a, b, p, q) => if decide (m = n) && plainO o && noStar a && noStar b && (p.endLine == q.line) then some [o, a, b] else none
  | none => none
theorem mtM1_ok {X : Cx} {n : Str} {e : Expr} {l : List Expr} (h : mtM1 n e = some l) : ∃ o a p q, e = .Call (.Attribute o n p) [a] [] q ∧ l = [o, a] ∧ noStar a = true ∧ M1 X o n p a q := by
  unfold mtM1 at h
  split at h
  · rename_i o m a p q hv
    cases vMeth1_ok hv
    obtain ⟨h1, h2⟩ := if_some h
    subst h2
    simp only [Bool.and_eq_true, decide_eq_true_eq] at h1
    obtain ⟨⟨⟨rfl, h3⟩, h4⟩, h5⟩ := h1
    have hs := star_each h4 [] X.env
    exact ⟨o, a, p, q, rfl, rfl, h4, plainO_ok h3 _ _, by rw [hs]; rfl, h5, by rw [hs]; rfl⟩
  · cases h
theorem mtM2_ok {X : Cx} {n : Str} {e : Expr} {l : List Expr} (h : mtM2 n e = some l) : ∃ o a b p q, e = .Call (.Attribute o n p) [a, b] [] q ∧ l = [o, a, b] ∧ M2 X o n p a b q := by
  unfold mtM2 at h
  split at h
  · rename_i o m a b p q hv
    cases vMeth2_ok hv
    obtain ⟨h1, h2⟩ := if_some h
    subst h2
    simp only [Bool.and_eq_true, decide_eq_true_eq] at h1
    obtain ⟨⟨⟨⟨rfl, h3⟩, h4⟩, h6⟩, h5⟩ := h1
    have hs := star_each h4 [b] X.env
    have hs2 := star_each h6 [] X.env
    exact ⟨o, a, b, p, q, rfl, rfl, plainO_ok h3 _ _, by rw [hs, hs2]; rfl, h5, by rw [hs, hs2]; rfl⟩
  · cases h
/-! ### d.get(k, x) -/
def getD2 : List D → M D
  | [.dct ks vs, x, d] => if dkOk (x :: ks) then M.ret ((lkD ks vs x).getD d) else M.no
  | _ => M.no
theorem lk_none {k : NestedKey} {x : D} (hx : nkD x = some k) : ∀ {L : List Ev3} {ks vs : List D}, ks.map nkD = L.map (fun p => some p.2.1) → lkD ks vs x = none → ks.length ≤ vs.length → valK L k = none
  | [], [], _, _, _, _ => rfl
  | [], _ :: _, _, h, _, _ => nomatch h
  | _ :: _, [], _, h, _, _ => nomatch h
  | p :: L, y :: ks, [], h, e, hl => by simp at hl
  | p :: L, y :: ks, v :: vs, h, e, hl => by
    simp only [List.map_cons, List.cons.injEq] at h
    have e : (if nkD y = nkD x then some v else lkD ks vs x) = none := e
    by_cases q : nkD y = nkD x
    · rw [if_pos q] at e; cases e
    · rw [if_neg q] at e
      have r := lk_none hx h.2 e (by simpa using hl)
      unfold valK
      rw [h.1, hx] at q
      have q : ¬ p.2.1 = k := fun z => q (by rw [z])
      simp only [q, decide_false, Bool.false_eq_true, if_false]
      exact r
def pGet : Prim where
  fl := [true, false, false]
  mt := fun _ _ e => mtM2 "get" e
  sem := fun _ => getD2
  snd := by
    intro g q k z X e l ms G F hm ho
    obtain ⟨o, a, b, p, c, rfl, rfl, hM⟩ := mtM2_ok (X := X) hm
    obtain ⟨m1, m2, m3, rfl, p1, p2, p3⟩ := ops3 ho
    refine PE.weaken (pe_dcget2 (by have := G.un; omega) p1 p2 p3 hM) ?_
    rintro σ H Q ⟨W0, W, en, rfl, ok, eo, hy⟩
    refine at_seqR ok eo hy fun W1 v d l1 ok1 eo1 r1 hy1 => ?_
    cases r1 with
    | @dct a L ks vs hx hl rx rv ek =>
      refine ⟨a, L, rfl, hx.at_ ok1, ?_⟩
      refine at_seq ok1 eo1 hy1 fun W2 v2 d2 l2 ok2 eo2 r2 hy2 => ?_
      refine at_seq ok2 eo2 hy2 fun W3 v3 d3 l3 ok3 eo3 r3 hy3 => ?_
      obtain ⟨d4, S4, e4, k4⟩ := hy3
      obtain ⟨hc, e5⟩ := if_no (show (if dkOk (d2 :: ks) = true then M.ret ((lkD ks vs d2).getD d3) else M.no) W3.S = some (d4, S4) from e4)
      obtain ⟨rfl, rfl⟩ := ret_inv e5
      have hx3 := l3.dcR (l2.dcR hx)
      have rx3 := l3.rps (l2.rps rx)
      have rv3 := l3.rps (l2.rps rv)
      obtain ⟨m, kk, ak, hk, hv⟩ := ask_D ok3 hx3 rx3 ek (l3.rp r2).rd hc
      refine ⟨m, L, kk, ak, ?_⟩
      cases e6 : lkD ks vs d2 with
      | some d =>
        obtain ⟨w, w1, w2⟩ := lk_val hk ek rv3 e6
        rw [w1]
        rw [e6] at k4
        exact k4 W3 (Le.refl _) ok3 rfl w w2
      | none =>
        have hl1 := rx.len
        have hl2 := rv.len
        simp only [List.length_map] at hl1 hl2
        rw [lk_none hk ek e6 (by omega)]
        rw [e6] at k4
        exact k4 W3 (Le.refl _) ok3 rfl v3 r3
    | _ =>
      exfalso
      rw [seq_cons] at hy1
      obtain ⟨d4, S4, e4, k4⟩ := hy1
      obtain ⟨x1, S5, e5, e6⟩ := bnd_inv e4
      rw [seq_cons] at e6
      obtain ⟨x2, S6, e7, e8⟩ := bnd_inv e6
      exact no_inv (S := S6) e8
/-! ### min, max of two numbers -/
def bin2 (f : D → D → Option D) : List D → M D
  | [x, y] => M.opt (f x y)
  | _ => M.no
def minD : D → D → Option D
  | .int a, .int b => some (.int (if b < a then b else a))
  | _, _ => none
def maxD : D → D → Option D
  | .int a, .int b => some (.int (if b > a then b else a))
  | _, _ => none
def mtC2 (n : Str) (z : Zs) (e : Expr) : Option (List Expr) := match vCall e with
  | some (f, [a, b]) => if decide (f = n) && glB z.sc n && noStar a && noStar b then some [a, b] else none
  | _ => none
theorem mtC2_ok {n : Str} {z : Zs} {e : Expr} {l : List Expr} (h : mtC2 n z e = some l) : ∃ a b p q, e = .Call (.Name n p) [a, b] [] q ∧ l = [a, b] ∧ glB z.sc n = true ∧ noStar a = true ∧ noStar b = true := by
  unfold mtC2 at h
  split at h
  · rename_i f a b hv
    obtain ⟨p, q, rfl⟩ := vCall_ok hv
    obtain ⟨h1, h2⟩ := if_some h
    subst h2
    simp only [Bool.and_eq_true, decide_eq_true_eq] at h1
    obtain ⟨⟨⟨rfl, h3⟩, h4⟩, h5⟩ := h1
    exact ⟨a, b, p, q, rfl, rfl, h3, h4, h5⟩
  · cases h
theorem pe_c2 {X : Cx} {n : Str} {id : String} {r : List V → Hp → VK → Prop} {a b : Expr} {p q : Pos} {m1 m2 : En → M D} (hc : CallR X (.builtin id) r) (hg : Gl X n) (hm : X.mg n = none) (hv : bootBuiltins n = some (.builtin id)) (h1 : noStar a = true) (h2 : noStar b = true)
    (p1 : PE X a (tM X.kx m1)) (p2 : PE X b (tM X.kx m2)) (hn : n ≠ "__name__") (hdb : (n == ("__debug__" : Str)) = false) : PE X (.Call (.Name n p) [a, b] [] q) (tCB r (tCons (tM X.kx m1) (tCons (tM X.kx m2) tNil))) :=
  pe_callB hc hg hm hv (pa_cons p1 (pa_cons p2 pa_nil (star_each h2 [] X.env)) (star_each h1 _ X.env)) hn hdb (star_each h1 _ X.env) (star_any q X.env (by simp [h2]))
def pMin2 : Prim where
  fl := [false, false]
  mt := fun _ z e => mtC2 "min" z e
  sem := fun _ => bin2 minD
  snd := by
    intro g q k z X e l ms G F hm ho
    obtain ⟨a, b, p, c, rfl, rfl, h1, h2, h3⟩ := mtC2_ok hm
    obtain ⟨m1, m2, rfl, p1, p2⟩ := ops2 ho
    refine PE.weaken (pe_c2 (call_min2 G.calm) (G.gb h1) (G.bl _ (by decide)) (by decide +kernel) h2 h3 p1 p2 (by decide) (by decide)) ?_
    rintro σ H Q ⟨W0, W, en, rfl, ok, eo, hy⟩
    refine at_seq ok eo hy fun W1 v d l1 ok1 eo1 r1 hy1 => ?_
    refine at_seq ok1 eo1 hy1 fun W2 v2 d2 l2 ok2 eo2 r2 hy2 => ?_
    obtain ⟨d4, e4, k4⟩ := yl_opt (show Yl X.kx W2 (M.opt (minD d d2)) _ _ from hy2)
    cases r1 with
    | int i =>
      cases r2 with
      | int j =>
        cases e4
        exact ⟨i, j, rfl, k4 W2 (Le.refl _) ok2 rfl _ (.int _)⟩
      | _ => cases e4
    | _ => cases d2 <;> cases e4
def pMax2 : Prim where
  fl := [false, false]
  mt := fun _ z e => mtC2 "max" z e
  sem := fun _ => bin2 maxD
  snd := by
    intro g q k z X e l ms G F hm ho
    obtain ⟨a, b, p, c, rfl, rfl, h1, h2, h3⟩ := mtC2_ok hm
    obtain ⟨m1, m2, rfl, p1, p2⟩ := ops2 ho
    refine PE.weaken (pe_c2 (call_max2 G.calm) (G.gb h1) (G.bl _ (by decide)) (by decide +kernel) h2 h3 p1 p2 (by decide) (by decide)) ?_
    rintro σ H Q ⟨W0, W, en, rfl, ok, eo, hy⟩
    refine at_seq ok eo hy fun W1 v d l1 ok1 eo1 r1 hy1 => ?_
    refine at_seq ok1 eo1 hy1 fun W2 v2 d2 l2 ok2 eo2 r2 hy2 => ?_
    obtain ⟨d4, e4, k4⟩ := yl_opt (show Yl X.kx W2 (M.opt (maxD d d2)) _ _ from hy2)
    cases r1 with
    | int i =>
      cases r2 with
      | int j =>
        cases e4
        exact ⟨i, j, rfl, k4 W2 (Le.refl _) ok2 rfl _ (.int _)⟩
      | _ => cases e4
    | _ => cases d2 <;> cases e4
/-! ### sep.join(texts), places.index(x) -/
def strsD : List D → Option (List Str)
  | [] => some []
  | .str s :: r => (strsD r).map (s :: ·)
  | _ :: _ => none
theorem strs_rps {K : Kx} {F : Hp} {io : List Addr} : ∀ {ds : List D} {vs : List V} {ys : List Str}, Reps K F io vs ds → strsD ds = some ys → vs = ys.map V.str
  | [], _, _, .nil, e => by cases e; rfl
  | d :: ds, _, ys, .cons h r, e => by
    cases h with
    | str s =>
      obtain ⟨ms, e1, e2⟩ := Option.map_eq_some_iff.mp (show (strsD ds).map (s :: ·) = some ys from e)
      subst e2
      rw [strs_rps r e1]; rfl
    | _ => cases e
def joinOf (a : Str) (ds : List D) : Option D := (strsD ds).bind fun ys => if (ys.map (·.length)).sum + ys.length * a.length ≤ 16777216 then some (.str (Txt.join a ys)) else none
def joinD : D → D → Option D
  | .str a, .lst ds => joinOf a ds
  | .str a, .tup ds => joinOf a ds
  | _, _ => none
theorem joinOf_inv {a : Str} {ds : List D} {d : D} (h : joinOf a ds = some d) : ∃ ys, strsD ds = some ys ∧ (ys.map (·.length)).sum + ys.length * a.length ≤ 16777216 ∧ d = .str (Txt.join a ys) := by
  obtain ⟨ys, e1, e2⟩ := obind0 h
  by_cases c : (ys.map (·.length)).sum + ys.length * a.length ≤ 16777216
  · rw [if_pos c] at e2
    cases e2
    exact ⟨ys, e1, c, rfl⟩
  · rw [if_neg c] at e2; cases e2
def pJoin : Prim where
  fl := [false, true]
  mt := fun _ _ e => mtM1 "join" e
  sem := fun _ => bin2 joinD
  snd := by
    intro g q k z X e l ms G F hm ho
    obtain ⟨o, a, p, c, rfl, rfl, hn, hM⟩ := mtM1_ok (X := X) hm
    obtain ⟨m1, m2, rfl, p1, p2⟩ := ops2 ho
    refine PE.weaken (pe_join p1 p2 (by rw [star_each hn]; rfl) hM.base hM.line) ?_
    rintro σ H Q ⟨W0, W, en, rfl, ok, eo, hy⟩
    refine at_seq ok eo hy fun W1 v d l1 ok1 eo1 r1 hy1 => ?_
    cases r1 with
    | str s =>
      refine ⟨⟨s, rfl⟩, ?_⟩
      refine at_seqR ok1 eo1 hy1 fun W2 v2 d2 l2 ok2 eo2 r2 hy2 => ?_
      obtain ⟨d4, e4, k4⟩ := yl_opt (show Yl X.kx W2 (M.opt (joinD (.str s) d2)) _ _ from hy2)
      cases r2 with
      | @lst a vs ds hx hl rx =>
        obtain ⟨ys, e5, e6, rfl⟩ := joinOf_inv e4
        have e7 := strs_rps rx e5
        subst e7
        exact ⟨s, a, ys, rfl, rfl, .inl (hx.sq ok2), e6, k4 W2 (Le.refl _) ok2 rfl _ (.str _)⟩
      | @tup a vs ds hx hl rx =>
        obtain ⟨ys, e5, e6, rfl⟩ := joinOf_inv e4
        have e7 := strs_rps rx e5
        subst e7
        exact ⟨s, a, ys, rfl, rfl, .inr (ok2.sqT hx), e6, k4 W2 (Le.refl _) ok2 rfl _ (.str _)⟩
      | _ => cases e4
    | _ =>
      exfalso
      rw [seq_cons] at hy1
      obtain ⟨d4, S4, e4, k4⟩ := hy1
      obtain ⟨x1, S5, e5, e6⟩ := bnd_inv e4
      exact no_inv (S := S5) (show M.no S5 = some (d4, S4) from e6)
/-- the first place of an equal one -/
def findD (x : D) : List D → Nat → Option Nat
  | [], _ => none
  | y :: ys, n => if PyData.eqv y.py x.py then some n else findD x ys (n + 1)
def indexD : D → D → Option D
  | .lst ys, x => if shp (.lst ys) && shp x then (findD x ys 0).map fun (n : Nat) => .int (n : Int) else none
  | _, _ => none
theorem find_ok {x : D} : ∀ {ys : List D} {n j : Nat}, findD x ys n = some j → ∃ i z, j = n + i ∧ (D.pys ys)[i]? = some z ∧ PyData.eqv z x.py = true ∧ ∀ (m : Nat) (z' : PyData), m < i → (D.pys ys)[m]? = some z' → PyData.eqv z' x.py = false
  | [], _, _, h => nomatch h
  | y :: ys, n, j, h => by
    have h : (if PyData.eqv y.py x.py = true then some n else findD x ys (n + 1)) = some j := h
    by_cases c : PyData.eqv y.py x.py = true
    · rw [if_pos c] at h
      cases h
      exact ⟨0, y.py, rfl, rfl, c, fun m z' hm => by omega⟩
    · rw [if_neg c] at h
      obtain ⟨i, z, e1, e2, e3, e4⟩ := find_ok h
      refine ⟨i + 1, z, by omega, e2, e3, fun m z' hm hz => ?_⟩
      cases m with
      | zero =>
        cases (show some y.py = some z' from hz)
        exact Bool.eq_false_iff.mpr c
      | succ m => exact e4 m z' (by omega) hz
def pIndex : Prim where
  fl := [true, false]
  mt := fun _ _ e => mtM1 "index" e
  sem := fun _ => bin2 indexD
  snd := by
    intro g q k z X e l ms G F hm ho
    obtain ⟨o, a, p, c, rfl, rfl, hn, hM⟩ := mtM1_ok (X := X) hm
    obtain ⟨m1, m2, rfl, p1, p2⟩ := ops2 ho
    refine PE.weaken (pe_bm PySem.F.plainAttrs_list PySem.F.slot_list_index PySem.F.type_list_index (mt_indexD (by have := G.un; omega)) p1 (pa_cons p2 pa_nil (star_each hn [] X.env)) hM.base hM.few hM.line (star_each hn [] X.env) (by rfl)) ?_
    rintro σ H Q ⟨W0, W, en, rfl, ok, eo, hy⟩
    refine at_seqR ok eo hy fun W1 v d l1 ok1 eo1 r1 hy1 => ?_
    cases r1 with
    | @lst a vs ds hx hl rx =>
      refine ⟨.inl ⟨rfl, vs, hx.sq ok1⟩, ?_⟩
      refine at_seq ok1 eo1 hy1 fun W2 v2 d2 l2 ok2 eo2 r2 hy2 => ?_
      obtain ⟨d4, e4, k4⟩ := yl_opt (show Yl X.kx W2 (M.opt (indexD (.lst ds) d2)) _ _ from hy2)
      have e4 : (if (shp (.lst ds) && shp d2) = true then (findD d2 ds 0).map fun (n : Nat) => D.int (n : Int) else none) = some d4 := e4
      obtain ⟨hc, e5⟩ : (shp (.lst ds) && shp d2) = true ∧ (findD d2 ds 0).map (fun (n : Nat) => D.int (n : Int)) = some d4 := by
        split at e4
        · exact ⟨by assumption, e4⟩
        · cases e4
      obtain ⟨j, e6, e7⟩ := Option.map_eq_some_iff.mp e5
      subst e7
      obtain ⟨i, z', e8, e9, e10, e11⟩ := find_ok e6
      have e8 : j = i := by omega
      subst e8
      have hc := Bool.and_eq_true_iff.mp hc
      have c1 := Bool.and_eq_true_iff.mp hc.1
      have c2 := Bool.and_eq_true_iff.mp hc.2
      exact ⟨a, v2, d2.py, D.pys ds, j, z', rfl, rfl, Rd.dp (.lst (l2.lsR hx) hl (l2.rps rx)) ok2 c1.1, ok2.dp r2 c2.1, c1.2, c2.2, e9, e10, e11, k4 W2 (Le.refl _) ok2 rfl _ (.int _)⟩
    | _ =>
      exfalso
      rw [seq_cons] at hy1
      obtain ⟨d4, S4, e4, k4⟩ := hy1
      obtain ⟨x1, S5, e5, e6⟩ := bnd_inv e4
      exact no_inv (S := S5) (show M.no S5 = some (d4, S4) from e6)
end Cv

/-! Cw2: additions: new dicts, displays. -/
namespace Cv
open PySem PySem.Spec PyProof.Rows L2
section
variable {X : Cx} {pins : List (Addr × Obj)} {σ : L2.St} {H : Hp} {s : Shared}
/-- pairs by texts or numbers, told as a dict's -/
def evK (kvs : List (Key × V)) : List Ev3 := kvs.map fun kv => (kV kv.1, nkOf kv.1, kv.2)
theorem evK_of : ∀ {L' : List En3} {kvs : List (Key × V)}, KV kvs (toM L') → L'.map (·.2.1) = kvs.map (fun p => nkOf p.1) → (∀ p ∈ L', KyS (p.1, p.2.1)) → EP (evK kvs) L'
  | [], [], _, _, _ => .nil
  | [], _ :: _, _, h, _ => nomatch h
  | _ :: _, [], _, h, _ => nomatch h
  | p :: L', kv :: kvs, r, h, hk => by
    obtain ⟨u, k, x⟩ := p
    simp only [List.map_cons, List.cons.injEq] at h
    obtain ⟨h1, h2⟩ := h
    cases r with
    | cons a t =>
      obtain ⟨key, f1, f2⟩ := hk _ List.mem_cons_self
      have e : kv.1 = key := nkOf_inj (h1.symm.trans f2)
      subst h1
      refine .cons ?_ a.2 (evK_of t h2 fun q hq => hk q (List.mem_cons_of_mem _ hq))
      rw [e]
      exact relV_key f1
/-- a dict by texts and numbers, locked -/
theorem dk_lock {a : Addr} {kvs : List (Key × V)} (I : Inv X pins σ H s) (h : H a = some (.dK kvs)) : ∃ o, Inv X pins σ (upd H a (.frz o (DcV X.w a (evK kvs)))) s := by
  obtain ⟨z, hd, vs, rel, dd⟩ := dk_of I.hok h
  obtain ⟨L', R, e1, e2, e3⟩ := dicM_of hd dd
  have ek : vs.map (fun p => nkOf p.1) = kvs.map (fun p => nkOf p.1) := by
    clear e1 e2 h dd z
    induction rel with
    | nil => rfl
    | cons a t ih => rw [List.map_cons, List.map_cons, ih, a.1]
  have x : EP (evK kvs) L' := evK_of (by rw [e1]; exact rel) (e2.trans ek) e3
  obtain ⟨o, es, ep, ho, _⟩ := id R.ob
  exact ⟨o, d_write (t' := s.toks) I (by rw [h]; exact True.intro) (Heap.SameBut.refl _ _) ⟨o, ho⟩ (show ObjOk _ _ _ _ _ (.frz o (DcV X.w a (evK kvs))) from ⟨ho, dcV_ok x R⟩)⟩
/-- {k: v, ..} by texts or numbers, as a dict that stays -/
def tDispZ (w : World) (trs : List (TE × TE)) : TE := fun σ H Q => tDisp trs σ H fun u H' => ∃ p H2 kvs, u = .ref p ∧ H' = upd H2 p (.dK kvs) ∧ ∀ o, Q (.ref p) (upd H2 p (.frz o (DcV w p (evK kvs))))
theorem pe_dispZ {pos : Pos} {keys : List (Option Expr)} {values : List Expr} {trs : List (TE × TE)} (h : PPs X pos keys values trs) (hall : keys.all (·.isSome) = true) (hl : keys.length = values.length) (h0 : keys ≠ []) (h15 : keys.length ≤ 15) :
    PE X (.Dict keys values pos) (tDispZ X.w trs) := by
  refine ⟨fun pins s σ H Q I q => ?_⟩
  refine thn ((pe_disp h hall hl h0 h15).run pins s σ H _ I q) fun u s1 ⟨x, H', I', r, p, H2, kvs, e1, e2, q2⟩ => ?_
  subst e1 e2
  obtain ⟨o, I2⟩ := dk_lock (a := p) (kvs := kvs) I' upd_same
  have e : upd (upd H2 p (.dK kvs)) p (.frz o (DcV X.w p (evK kvs))) = upd H2 p (.frz o (DcV X.w p (evK kvs))) := by
    funext b
    by_cases z : b = p
    · subst z; rw [upd_same, upd_same]
    · rw [upd_ne z, upd_ne z, upd_ne z]
  rw [e] at I2
  exact ⟨.ref p, _, I2, r, q2 o⟩
end

/-! ### {k: v}, {"a": x, ..} as data -/
def dispD : List D → List D → M D
  | ks, vs => if ks.all (keyM false) && decide (ks.length ≤ 15) then M.opt (mkD ks vs) else M.no
def disp1D : List D → M D
  | [k, v] => dispD [k] [v]
  | _ => M.no
def mtDisp1 (e : Expr) : Option (List Expr) := match vDict e with
  | some ([some k], [v]) => some [k, v]
  | _ => none
theorem mtDisp1_ok {e : Expr} {l : List Expr} (h : mtDisp1 e = some l) : ∃ k v p, e = .Dict [some k] [v] p ∧ l = [k, v] := by
  unfold mtDisp1 at h
  split at h
  · rename_i k v hv
    obtain ⟨p, rfl⟩ := vDict_ok hv
    cases h
    exact ⟨k, v, p, rfl, rfl⟩
  · cases h
theorem keyM_V {K : Kx} {W : Wd} {v : V} {d : D} (r : W.Rp K v d) (h : keyM false d = true) : ∃ k : Key, v = kV k ∧ nkD d = some (nkOf k) := by
  cases r with
  | int i => exact ⟨.inl i, rfl, rfl⟩
  | str s => exact ⟨.inr s, rfl, rfl⟩
  | _ => cases h
def pDisp1 : Prim where
  fl := [false, false]
  mt := fun _ _ e => mtDisp1 e
  sem := fun _ => disp1D
  snd := by
    intro g q k z X e l ms G F hm ho
    obtain ⟨ke, ve, p, rfl, rfl⟩ := mtDisp1_ok hm
    obtain ⟨m1, m2, rfl, p1, p2⟩ := ops2 ho
    refine PE.weaken (pe_dispZ (pos := p) (pps_cons p1 p2 (pps_nil (X := X) (pos := p))) rfl rfl (by simp) (by simp)) ?_
    rintro σ H Q ⟨W0, W, en, rfl, ok, eo, hy⟩ p hp
    have okp := ok_ad ok hp (o := .dK [])
    have lp := le_ad hp (o := .dK [])
    have np : p ∉ W.io := fun hm => by
      obtain ⟨kv, a1, a2⟩ := ok.alive hm
      rw [hp] at a1; cases a1
    obtain ⟨d9, S9, e9, k9⟩ := hy
    have e9 : M.bnd (seqM [m1, m2] en) disp1D W.S = some (d9, S9) := e9
    rw [seq_cons] at e9
    obtain ⟨d1, S1, f1, e10⟩ := bnd_inv e9
    rw [seq_cons] at e10
    obtain ⟨d2, S2, f2, e11⟩ := bnd_inv e10
    have e11 : (if ([d1].all (keyM false) && decide ([d1].length ≤ 15)) = true then M.opt (mkD [d1] [d2]) else M.no) S2 = some (d9, S9) := e11
    obtain ⟨hc, e12⟩ := if_no e11
    obtain ⟨e13, rfl⟩ := opt_inv e12
    refine ⟨W0, W.ad p (.dK []), en, rfl, okp, eo.le lp, d1, S1, f1, fun W1 l1 ok1 es1 v1 r1 => ?_⟩
    refine ⟨W0, W1, en, rfl, ok1, (eo.le lp).le l1, d2, S9, by rw [es1]; exact f2, fun W2 l2 ok2 es2 v2 r2 => ?_⟩
    have hp1 : (W.ad p (.dK [])).H p = some (.dK []) := upd_same
    have l12 := l1.trans l2
    have at2 := l12.hh _ _ hp1 np
    have np2 : p ∉ W2.io := l12.nio hp1 np
    have nF2 : W2.F p = none := l12.nf _ _ hp1 (ok.fnone hp)
    have hk1 : keyM false d1 = true := by
      have := (Bool.and_eq_true_iff.mp hc).1
      simpa using this
    obtain ⟨key, rfl, hk2⟩ := keyM_V r1 hk1
    refine ⟨at2, [(key, v2)], rfl, by simp, p, W2.H, [(key, v2)], rfl, rfl, fun o => ?_⟩
    have ok3 := ok_fw ok2 (o := .frz o (DcV X.w p (evK [(key, v2)]))) nF2 np2
    have le3 := le_fw (lp.trans l12) (W := W2) (p := p) (o := .frz o (DcV X.w p (evK [(key, v2)]))) hp nF2
    refine k9 _ le3 ok3 es2 (.ref p) ?_
    unfold mkD at e13
    obtain ⟨hd, e14⟩ := if_some e13
    subst e14
    have ff := ff_fw (W := W2) (p := p) (o := .frz o (DcV X.w p (evK [(key, v2)]))) nF2
    have mono : ∀ {v : V} {d : D}, W2.Rp X.kx v d → (W2.fw p (.frz o (DcV X.w p (evK [(key, v2)])))).Rp X.kx v d := fun r => Rep.mono ff (fun _ _ h => h) r
    refine .dct (L := evK [(key, v2)]) (o := o) upd_same (by show 1 ≤ sizeLine; decide) (.cons (mono (l2.rp r1)) .nil) (.cons (mono r2) .nil) ?_
    show [nkD d1] = [some (nkOf key)]
    rw [hk2]
/-! ### d = {}; d, e = {}, {} -/
theorem isEmptyD {e : Expr} (h : (match vDict e with
    | some ([], []) => true
    | _ => false) = true) : ∃ p, e = .Dict [] [] p := by
  split at h
  · rename_i hv
    obtain ⟨p, rfl⟩ := vDict_ok hv
    exact ⟨p, rfl⟩
  · cases h
def emptyD (e : Expr) : Bool := match vDict e with
  | some ([], []) => true
  | _ => false
def newDic (i : Nat) (en : En) : M En := if i < en.length then M.ret (en.set i (.own (.od [] []))) else M.no
def mtNewD (i : Nat) (q : Ck) (z : Zs) (s : Stmt) : Option (List Expr) := match vAsg s with
  | some (.Name y _, v, _) => if ixB q.N i y && storeB z y && emptyD v then some [] else none
  | _ => none
theorem own_dict {K : Kx} {W : Wd} {p : Addr} : OwAt K W.F W.io p (DcV K.wo p []) (.od [] []) := ⟨[], rfl, Nat.zero_le _, .nil, .nil, rfl⟩
def pNewD (i : Nat) : PrimS where
  fl := []
  mt := mtNewD i
  sem := fun _ _ en => newDic i en
  snd := by
    intro g q k z X s l ms G F hm ho W0
    unfold mtNewD at hm
    split at hm
    · rename_i y py v p hv
      cases vAsg_ok hv
      obtain ⟨h1, h2⟩ := if_some hm
      subst h2
      match ms, ho with
      | [], _ =>
      simp only [Bool.and_eq_true] at h1
      obtain ⟨⟨h1, h2⟩, h3⟩ := h1
      obtain ⟨p2, rfl⟩ := isEmptyD h3
      obtain ⟨s1, s2⟩ := storeB_ok h2 G.sc G.fn
      refine PS.weaken (ps_set G.nd (by rw [G.N]; exact of_decide_eq_true h1) s1 pe_dcnew (by rfl) s2) ?_
      rintro D σ H ⟨W, en, fl, en', S', rfl, ok, le, eo, hm, he⟩
      obtain ⟨en1, S1, e1, e2⟩ := bnd_inv (show M.bnd (newDic i en) (fun en' => M.ret (Fl.nx, en')) W.S = some ((fl, en'), S') from hm)
      obtain ⟨hi, e3⟩ := ifp_no e1
      obtain ⟨rfl, rfl⟩ := ret_inv e3
      obtain ⟨rfl, rfl, rfl⟩ := nx_inv e2
      refine .inl fun a ha => ?_
      have np : a ∉ W.io := fun hm => by
        obtain ⟨kv, a1, a2⟩ := ok.alive hm
        rw [ha] at a1; cases a1
      have la := le_ad (W := W) ha (o := DcV X.w a [])
      refine he (W.ad a (DcV X.w a [])) _ (ok_ad ok ha) (le.trans la) la.lw ((eo.le la).setW hi upd_same (ok.fnone ha) np (le.al _ ha) own_dict ?_) rfl
      intro j x hj hs
      obtain ⟨b, ob, b1, b2⟩ := eo.alive j x hj
      rw [hs] at b1
      cases b1
      rw [ha] at b2; cases b2
    · cases hm
def newDic2 (i j : Nat) (en : En) : M En := if i < en.length && j < en.length then M.ret ((en.set i (.own (.od [] []))).set j (.own (.od [] []))) else M.no
def mtNewD2 (i j : Nat) (q : Ck) (z : Zs) (s : Stmt) : Option (List Expr) := match vAsg s with
  | some (.Tuple ts _ _, .Tuple vs _ _, _) => if parB q z.sc ((ts.head?.map (·.pos.line)).getD 0) [i, j] ts && decide (i ≠ j) && fnB z.sc && decide (vs.length = 2) && vs.all emptyD then some [] else none
  | _ => none
def pNewD2 (i j : Nat) : PrimS where
  fl := []
  mt := mtNewD2 i j
  sem := fun _ _ en => newDic2 i j en
  snd := by
    intro g q k z X s l ms G F hm ho W0
    unfold mtNewD2 at hm
    split at hm
    · rename_i ts kt pt vs k2 pt2 p hv
      cases vAsg_ok hv
      obtain ⟨h, h2⟩ := if_some hm
      subst h2
      match ms, ho with
      | [], _ =>
      simp only [Bool.and_eq_true, decide_eq_true_eq] at h
      obtain ⟨⟨⟨⟨h1, h2⟩, h3⟩, h4⟩, h5⟩ := h
      obtain ⟨x, px, y, py, rfl, a1, a2, a3, a4, a5, a6⟩ := parB2 h1
      match vs, h4 with
      | [v, w], _ =>
        have h5 : (emptyD v && (emptyD w && true)) = true := h5
        simp only [Bool.and_eq_true] at h5
        obtain ⟨p5, rfl⟩ := isEmptyD h5.1
        obtain ⟨p6, rfl⟩ := isEmptyD h5.2.1
        have nx : X.N[i]? = some x := by rw [G.N]; exact a1
        have ny : X.N[j]? = some y := by rw [G.N]; exact a2
        have lx : X.env.scope.names.lookup x = some .local := by rw [G.sc]; exact a3
        have ly : X.env.scope.names.lookup y = some .local := by rw [G.sc]; exact a4
        have hpa := pa_cons (pe_dcnew (X := X) (pos := p5)) (pa_cons (pe_dcnew (X := X) (pos := p6)) pa_nil (star_each (e := .Dict [] [] p6) rfl [] X.env)) (star_each (e := .Dict [] [] p5) rfl _ X.env)
        refine PS.weaken (ps_par G.calm G.nd nx ny h2 lx ly hpa (par_sw2 (by rw [G.sc]; exact fnB_ok h3) lx ly a6 (nd_ne G.nd nx ny h2) rfl rfl rfl)) ?_
        rintro D σ H ⟨W, en, fl, en', S', rfl, ok, le, eo, hm, he⟩
        obtain ⟨en1, S1, e1, e2⟩ := bnd_inv (show M.bnd (newDic2 i j en) (fun en' => M.ret (Fl.nx, en')) W.S = some ((fl, en'), S') from hm)
        obtain ⟨hi, e3⟩ := if_no e1
        obtain ⟨rfl, rfl⟩ := ret_inv e3
        obtain ⟨rfl, rfl, rfl⟩ := nx_inv e2
        simp only [Bool.and_eq_true, decide_eq_true_eq] at hi
        refine .inl fun a ha => .inl fun b hb => ?_
        have la := le_ad (W := W) ha (o := DcV X.w a [])
        have ok1 := ok_ad ok ha (o := DcV X.w a [])
        have lb := le_ad (W := W.ad a (DcV X.w a [])) hb (o := DcV X.w b [])
        have nio : ∀ (W : Wd) (p : Addr), W.Ok X.kx → W.H p = none → p ∉ W.io := fun W p ok hp hm => by
          obtain ⟨kv, a1, a2⟩ := ok.alive hm
          rw [hp] at a1; cases a1
        have na := nio W a ok ha
        have nb := nio _ b ok1 hb
        have hab : a ≠ b := fun e => by
          subst e
          have hb : upd W.H a (DcV X.w a []) a = none := hb
          rw [upd_same] at hb; cases hb
        have ha2 : ((W.ad a (DcV X.w a [])).ad b (DcV X.w b [])).H a = some (DcV X.w a []) := lb.hh _ _ upd_same na
        have eo1 := (eo.le la).setW (i := i) hi.1 (p := a) upd_same (ok.fnone ha) na (le.al _ ha) (own_dict (p := a)) (fun m x hj hs => by
          obtain ⟨c, ob, b1, b2⟩ := eo.alive m x hj
          rw [hs] at b1
          cases b1
          rw [ha] at b2; cases b2)
        have eo2 := (eo1.le lb).setW (i := j) (by rw [List.length_set]; exact hi.2) (p := b) upd_same (ok1.fnone hb) nb ((le.trans la).al _ hb) (own_dict (p := b)) (fun m x hj hs => by
          obtain ⟨c, ob, b1, b2⟩ := eo1.alive m x hj
          rw [hs] at b1
          cases b1
          have hb : (W.ad a (DcV X.w a [])).H b = none := hb
          rw [hb] at b2; cases b2)
        exact ⟨.ref a, .ref b, rfl, he _ _ (ok_ad ok1 hb) (le.trans (la.trans lb)) (la.trans lb).lw eo2 rfl⟩
    · cases hm
end Cv

/-! Cw3: data of a shape: sizes, order, sets, sorting. -/
namespace Cv
open PySem PySem.Spec PyProof.Rows L2
mutual
/-- shapes: texts up to n signs, numbers up to N, tuples -/
inductive Ty where
  | s (n : Nat) | i (N : Nat) | t (r : Rw)
/-- .. a tuple's: so many, each its own shape; up to n of one shape -/
inductive Rw where
  | n | c (a : Ty) (r : Rw) | l (n : Nat) (a : Ty)
end
mutual
def D.ty : D → Ty → Bool
  | .str s, .s n => (s.cps.toList.all fun c => decide (c < 128)) && decide (s.cps.size ≤ n)
  | .int i, .i N => decide (i.natAbs ≤ N)
  | .tup xs, .t r => D.rw xs r
  | _, _ => false
def D.rw : List D → Rw → Bool
  | [], .n => true
  | [], .l _ _ => true
  | x :: xs, .c a r => D.ty x a && D.rw xs r
  | x :: xs, .l (n + 1) a => D.ty x a && D.rw xs (.l n a)
  | _, _ => false
end
mutual
def Ty.mx : Ty → Nat
  | .s _ => 0
  | .i N => N
  | .t r => Rw.mx r
def Rw.mx : Rw → Nat
  | .n => 0
  | .c a r => max (Ty.mx a) (Rw.mx r)
  | .l _ a => Ty.mx a
end
mutual
def Ty.bk : Ty → Nat
  | .s n => n
  | .i _ => 0
  | .t r => Rw.bk r
def Rw.bk : Rw → Nat
  | .n => 0
  | .c a r => Ty.bk a + 1 + Rw.bk r
  | .l n a => n * (Ty.bk a + 1)
end
mutual
def Ty.dp : Ty → Nat
  | .s _ => 0
  | .i _ => 0
  | .t r => Rw.dp r + 1
def Rw.dp : Rw → Nat
  | .n => 0
  | .c a r => max (Ty.dp a) (Rw.dp r)
  | .l _ a => Ty.dp a
end
mutual
theorem ty_gd : ∀ {d : D} {a : Ty}, D.ty d a = true → Gd' a.mx a.bk a.dp d
  | .str s, .s n, h => by
    have h := Bool.and_eq_true_iff.mp (show ((s.cps.toList.all fun c => decide (c < 128)) && decide (s.cps.size ≤ n)) = true from h)
    exact ⟨h.1, of_decide_eq_true h.2, Nat.le_refl _⟩
  | .int i, .i N, h => ⟨h, Nat.le_refl _, Nat.le_refl _⟩
  | .tup xs, .t r, h => (rw_gs (xs := xs) (r := r) h).tup
theorem rw_gs : ∀ {xs : List D} {r : Rw}, D.rw xs r = true → Gs r.mx r.bk r.dp xs
  | [], .n, _ => ⟨rfl, Nat.le_refl _, Nat.le_refl _⟩
  | [], .l _ _, _ => ⟨rfl, Nat.zero_le _, Nat.zero_le _⟩
  | x :: xs, .c a r, h => by
    have h := Bool.and_eq_true_iff.mp (show (D.ty x a && D.rw xs r) = true from h)
    obtain ⟨a1, a2, a3⟩ := ty_gd h.1
    obtain ⟨b1, b2, b3⟩ := rw_gs h.2
    refine ⟨Bool.and_eq_true_iff.mpr ⟨ws_mono (Nat.le_max_left _ _) a1, wss_mono (Nat.le_max_right _ _) b1⟩, ?_, ?_⟩
    · show x.py.bulk + 1 + PyData.bulkAll (D.pys xs) ≤ a.bk + 1 + r.bk
      omega
    · show max x.py.depth (PyData.depthAll (D.pys xs)) ≤ max a.dp r.dp
      omega
  | x :: xs, .l (n + 1) a, h => by
    have h := Bool.and_eq_true_iff.mp (show (D.ty x a && D.rw xs (.l n a)) = true from h)
    obtain ⟨a1, a2, a3⟩ := ty_gd h.1
    obtain ⟨b1, b2, b3⟩ := rw_gs h.2
    refine ⟨Bool.and_eq_true_iff.mpr ⟨a1, b1⟩, ?_, ?_⟩
    · show x.py.bulk + 1 + PyData.bulkAll (D.pys xs) ≤ (n + 1) * (a.bk + 1)
      have b2 : PyData.bulkAll (D.pys xs) ≤ n * (a.bk + 1) := b2
      rw [Nat.add_mul]
      omega
    · show max x.py.depth (PyData.depthAll (D.pys xs)) ≤ a.dp
      have b3 : PyData.depthAll (D.pys xs) ≤ a.dp := b3
      omega
end
mutual
theorem ty_alike : ∀ {x y : D} {a : Ty}, D.ty x a = true → D.ty y a = true → PySem.W.alike x.py y.py = true
  | .str s, y, .s n, _, h2 => by cases y <;> first | rfl | cases h2
  | .int i, y, .i N, _, h2 => by cases y <;> first | rfl | cases h2
  | .tup xs, y, .t r, h1, h2 => by
    cases y with
    | tup ys => exact rw_alike (xs := xs) (ys := ys) (r := r) h1 h2
    | _ => cases h2
theorem rw_alike : ∀ {xs ys : List D} {r : Rw}, D.rw xs r = true → D.rw ys r = true → PySem.W.alikeAll (D.pys xs) (D.pys ys) = true
  | [], ys, _, _, _ => by
    show PySem.W.alikeAll [] _ = true
    cases D.pys ys <;> rfl
  | x :: xs, [], _, _, _ => rfl
  | x :: xs, y :: ys, .c a r, h1, h2 => by
    have h1 := Bool.and_eq_true_iff.mp (show (D.ty x a && D.rw xs r) = true from h1)
    have h2 := Bool.and_eq_true_iff.mp (show (D.ty y a && D.rw ys r) = true from h2)
    exact Bool.and_eq_true_iff.mpr ⟨ty_alike h1.1 h2.1, rw_alike h1.2 h2.2⟩
  | x :: xs, y :: ys, .l (n + 1) a, h1, h2 => by
    have h1 := Bool.and_eq_true_iff.mp (show (D.ty x a && D.rw xs (.l n a)) = true from h1)
    have h2 := Bool.and_eq_true_iff.mp (show (D.ty y a && D.rw ys (.l n a)) = true from h2)
    exact Bool.and_eq_true_iff.mpr ⟨ty_alike h1.1 h2.1, rw_alike h1.2 h2.2⟩
end
mutual
theorem ty_nk : ∀ {d : D} {a : Ty}, D.ty d a = true → (nkD d).isSome = true
  | .str s, .s n, _ => rfl
  | .int i, .i N, _ => rfl
  | .tup xs, .t r, h => by
    obtain ⟨ks, e⟩ := Option.isSome_iff_exists.mp (rw_nk (xs := xs) (r := r) h)
    show ((nksD xs).map NestedKey.tup).isSome = true
    rw [e]; rfl
theorem rw_nk : ∀ {xs : List D} {r : Rw}, D.rw xs r = true → (nksD xs).isSome = true
  | [], _, _ => rfl
  | x :: xs, .c a r, h => by
    have h := Bool.and_eq_true_iff.mp (show (D.ty x a && D.rw xs r) = true from h)
    obtain ⟨k, e1⟩ := Option.isSome_iff_exists.mp (ty_nk h.1)
    obtain ⟨ks, e2⟩ := Option.isSome_iff_exists.mp (rw_nk h.2)
    unfold nksD
    rw [e1, e2]; rfl
  | x :: xs, .l (n + 1) a, h => by
    have h := Bool.and_eq_true_iff.mp (show (D.ty x a && D.rw xs (.l n a)) = true from h)
    obtain ⟨k, e1⟩ := Option.isSome_iff_exists.mp (ty_nk h.1)
    obtain ⟨ks, e2⟩ := Option.isSome_iff_exists.mp (rw_nk h.2)
    unfold nksD
    rw [e1, e2]; rfl
end
mutual
theorem ty_pl : ∀ {d : D} {a : Ty}, D.ty d a = true → d.pl = true
  | .str s, .s n, _ => rfl
  | .int i, .i N, _ => rfl
  | .tup xs, .t r, h => rw_pl (xs := xs) (r := r) h
theorem rw_pl : ∀ {xs : List D} {r : Rw}, D.rw xs r = true → D.pls xs = true
  | [], _, _ => rfl
  | x :: xs, .c a r, h => by
    have h := Bool.and_eq_true_iff.mp (show (D.ty x a && D.rw xs r) = true from h)
    exact Bool.and_eq_true_iff.mpr ⟨ty_pl h.1, rw_pl h.2⟩
  | x :: xs, .l (n + 1) a, h => by
    have h := Bool.and_eq_true_iff.mp (show (D.ty x a && D.rw xs (.l n a)) = true from h)
    exact Bool.and_eq_true_iff.mpr ⟨ty_pl h.1, rw_pl h.2⟩
end
theorem ty_nn {d : D} {a : Ty} (h : D.ty d a = true) : nnD d = true := by cases d <;> first | rfl | (cases a <;> cases h)
/-- a row of one shape -/
theorem rw_l {a : Ty} : ∀ {xs : List D} {n : Nat}, (∀ x ∈ xs, D.ty x a = true) → xs.length ≤ n → D.rw xs (.l n a) = true
  | [], _, _, _ => rfl
  | x :: xs, 0, _, h => by simp at h
  | x :: xs, n + 1, h1, h2 => Bool.and_eq_true_iff.mpr ⟨h1 x List.mem_cons_self, rw_l (fun y hy => h1 y (List.mem_cons_of_mem _ hy)) (by simpa using h2)⟩
theorem rw_lm {a : Ty} : ∀ {xs : List D} {n : Nat}, D.rw xs (.l n a) = true → (∀ x ∈ xs, D.ty x a = true) ∧ xs.length ≤ n
  | [], _, _ => ⟨fun _ h => by simp at h, Nat.zero_le _⟩
  | x :: xs, n + 1, h => by
    have h := Bool.and_eq_true_iff.mp (show (D.ty x a && D.rw xs (.l n a)) = true from h)
    obtain ⟨h1, h2⟩ := rw_lm h.2
    refine ⟨fun y hy => ?_, Nat.succ_le_succ h2⟩
    rcases List.mem_cons.mp hy with e | e
    · rw [e]; exact h.1
    · exact h1 y e
theorem rw_lM {α : Type} {f : α → D} {a : Ty} {xs : List α} {n : Nat} (h : ∀ x ∈ xs, D.ty (f x) a = true) (hn : xs.length ≤ n) : D.rw (xs.map f) (.l n a) = true := by
  refine rw_l (fun y hy => ?_) (by rw [List.length_map]; exact hn)
  obtain ⟨x, hx, rfl⟩ := List.mem_map.mp hy
  exact h x hx
mutual
/-- the one shape lies within the other -/
def Ty.le : Ty → Ty → Bool
  | .s n, .s m => decide (n ≤ m)
  | .i N, .i M => decide (N ≤ M)
  | .t r, .t q => Rw.le r q
  | _, _ => false
def Rw.le : Rw → Rw → Bool
  | .n, .n => true
  | .n, .l _ _ => true
  | .c a r, .c b q => Ty.le a b && Rw.le r q
  | .c a r, .l (m + 1) b => Ty.le a b && Rw.le r (.l m b)
  | .l n a, .l m b => decide (n ≤ m) && Ty.le a b
  | _, _ => false
end
mutual
theorem ty_le : ∀ {d : D} {a b : Ty}, D.ty d a = true → Ty.le a b = true → D.ty d b = true
  | .str s, .s n, b, h, hl => by
    cases b with
    | s m =>
      have h := Bool.and_eq_true_iff.mp (show ((s.cps.toList.all fun c => decide (c < 128)) && decide (s.cps.size ≤ n)) = true from h)
      have hl : n ≤ m := of_decide_eq_true hl
      exact Bool.and_eq_true_iff.mpr ⟨h.1, decide_eq_true (Nat.le_trans (of_decide_eq_true h.2) hl)⟩
    | _ => cases hl
  | .int i, .i N, b, h, hl => by
    cases b with
    | i M =>
      have hl : N ≤ M := of_decide_eq_true hl
      exact decide_eq_true (Nat.le_trans (of_decide_eq_true h) hl)
    | _ => cases hl
  | .tup xs, .t r, b, h, hl => by
    cases b with
    | t q => exact rw_le (xs := xs) (r := r) (q := q) h hl
    | _ => cases hl
theorem rw_le : ∀ {xs : List D} {r q : Rw}, D.rw xs r = true → Rw.le r q = true → D.rw xs q = true
  | [], .n, q, _, hl => by cases q <;> first | rfl | cases hl
  | [], .l _ _, q, _, hl => by cases q <;> first | rfl | cases hl
  | x :: xs, .c a r, q, h, hl => by
    have h := Bool.and_eq_true_iff.mp (show (D.ty x a && D.rw xs r) = true from h)
    cases q with
    | n => cases hl
    | c b q =>
      have hl := Bool.and_eq_true_iff.mp (show (Ty.le a b && Rw.le r q) = true from hl)
      exact Bool.and_eq_true_iff.mpr ⟨ty_le h.1 hl.1, rw_le h.2 hl.2⟩
    | l m b =>
      cases m with
      | zero => cases hl
      | succ m =>
        have hl := Bool.and_eq_true_iff.mp (show (Ty.le a b && Rw.le r (.l m b)) = true from hl)
        exact Bool.and_eq_true_iff.mpr ⟨ty_le h.1 hl.1, rw_le h.2 hl.2⟩
  | x :: xs, .l (n + 1) a, q, h, hl => by
    have h := Bool.and_eq_true_iff.mp (show (D.ty x a && D.rw xs (.l n a)) = true from h)
    cases q with
    | n => cases hl
    | c b q => cases hl
    | l m b =>
      have hl := Bool.and_eq_true_iff.mp (show (decide (n + 1 ≤ m) && Ty.le a b) = true from hl)
      have hm : n + 1 ≤ m := of_decide_eq_true hl.1
      cases m with
      | zero => omega
      | succ m =>
        refine Bool.and_eq_true_iff.mpr ⟨ty_le h.1 hl.2, rw_le (r := .l n a) (q := .l m b) h.2 ?_⟩
        exact Bool.and_eq_true_iff.mpr ⟨decide_eq_true (by omega), hl.2⟩
end
theorem ty_shp {d : D} {a : Ty} (h : D.ty d a = true) (hN : a.mx < 2 ^ 1900) (hp : a.dp ≤ 64) : shp d = true := (ty_gd h).shp hN hp
theorem ty_repr {d : D} {a : Ty} (h : D.ty d a = true) (hN : a.mx < 2 ^ 1900) (hp : a.dp ≤ 64) (hb : a.bk ≤ 8000) : b1D .repr d = some (.str d.py.shown) := (ty_gd h).repr hN hp hb
theorem ty_srt {xs : List D} {a : Ty} (h : ∀ x ∈ xs, D.ty x a = true) (hp : a.dp ≤ 99) (hl : xs.length ≤ 16000000) : srtD xs = some (xs.mergeSort leD) := by
  unfold srtD
  refine if_pos ?_
  unfold srtOk
  have r := rw_l h (Nat.le_refl xs.length)
  have g := rw_gs r
  simp only [Bool.and_eq_true, decide_eq_true_eq]
  refine ⟨⟨⟨⟨rw_pl r, ?_⟩, ?_⟩, ?_⟩, by rw [sizeLine_eq]; omega⟩
  · unfold alkD
    rw [List.all_eq_true]
    intro x hx
    rw [List.all_eq_true]
    intro y hy
    exact ty_alike (h x hx) (h y hy)
  · rw [List.all_eq_true]
    intro x hx
    exact ty_nn (h x hx)
  · have := g.dp
    have e : (Rw.l xs.length a).dp = a.dp := rfl
    omega
theorem ded_mem : ∀ {xs : List D} {x : D}, x ∈ dedD xs → x ∈ xs
  | [], x, h => h
  | y :: ys, x, h => by
    unfold dedD at h
    split at h
    · exact List.mem_cons_of_mem _ (ded_mem h)
    · rcases List.mem_cons.mp h with e | e
      · rw [e]; exact List.mem_cons_self
      · exact List.mem_cons_of_mem _ (ded_mem e)
theorem ded_len : ∀ (xs : List D), (dedD xs).length ≤ xs.length
  | [] => Nat.le_refl _
  | y :: ys => by
    have := ded_len ys
    unfold dedD
    split
    · rw [List.length_cons]; omega
    · rw [List.length_cons, List.length_cons]; omega
/-- a set of tuples -/
theorem ty_set {xs : List D} {r : Rw} (h : ∀ x ∈ xs, D.ty x (.t r) = true) (hp : r.dp ≤ 7) (hl : (dedD xs).length ≤ capK true) : setD xs = some (dedD xs) := by
  unfold setD
  refine if_pos ?_
  rw [Bool.or_eq_true]
  refine .inl ?_
  unfold setM
  rw [Bool.and_eq_true, decide_eq_true_eq, List.all_eq_true]
  refine ⟨fun x hx => ?_, hl⟩
  have q := h x hx
  cases x with
  | tup ys =>
    refine Bool.and_eq_true_iff.mpr ⟨ty_nk q, decide_eq_true ?_⟩
    have := (ty_gd q).dp
    have e : (Ty.t r).dp = r.dp + 1 := rfl
    omega
  | _ => cases q
/-- a set of texts -/
theorem str_set {xs : List Str} (hl : xs.length ≤ capK false) : setD (xs.map D.str) = some (dedD (xs.map D.str)) := by
  unfold setD
  refine if_pos ?_
  rw [Bool.or_eq_true]
  refine .inr ?_
  unfold setM
  rw [Bool.and_eq_true, decide_eq_true_eq, List.all_eq_true]
  refine ⟨fun x hx => ?_, ?_⟩
  · obtain ⟨s, _, rfl⟩ := List.mem_map.mp hx
    rfl
  · have := ded_len (xs.map D.str)
    rw [List.length_map] at this
    omega
/-- sorted(set(xs)) -/
def ss (xs : List D) : List D := (dedD xs).mergeSort leD
theorem ss_mem {xs : List D} {x : D} (h : x ∈ ss xs) : x ∈ xs := ded_mem ((List.mergeSort_perm _ _).mem_iff.mp h)
theorem ss_len (xs : List D) : (ss xs).length ≤ xs.length := by
  unfold ss
  rw [List.length_mergeSort]
  exact ded_len xs
/-- .. of what f tells -/
def dedBy {α : Type} (f : α → D) : List α → List α
  | [] => []
  | x :: xs => if xs.any fun y => decide (nkD (f y) = nkD (f x)) then dedBy f xs else x :: dedBy f xs
def ssBy {α : Type} (f : α → D) (xs : List α) : List α := (dedBy f xs).mergeSort fun a b => leD (f a) (f b)
theorem ded_map {α : Type} (f : α → D) : ∀ xs : List α, dedD (xs.map f) = (dedBy f xs).map f
  | [] => rfl
  | x :: xs => by
    rw [List.map_cons]
    unfold dedD dedBy
    rw [List.any_map]
    by_cases c : (xs.any ((fun y => decide (nkD y = nkD (f x))) ∘ f)) = true
    · rw [if_pos c, if_pos (by simpa using c), ded_map f xs]
    · rw [if_neg c, if_neg (by simpa using c), List.map_cons, ded_map f xs]
theorem ss_map {α : Type} (f : α → D) (xs : List α) : ss (xs.map f) = (ssBy f xs).map f := by
  unfold ss ssBy
  rw [ded_map]
  exact (List.map_mergeSort (r := fun a b => leD (f a) (f b)) (s := leD) (f := f) (fun a _ b _ => rfl)).symm
theorem dedBy_mem {α : Type} {f : α → D} : ∀ {xs : List α} {x : α}, x ∈ dedBy f xs → x ∈ xs
  | [], x, h => h
  | y :: ys, x, h => by
    unfold dedBy at h
    split at h
    · exact List.mem_cons_of_mem _ (dedBy_mem h)
    · rcases List.mem_cons.mp h with e | e
      · rw [e]; exact List.mem_cons_self
      · exact List.mem_cons_of_mem _ (dedBy_mem e)
theorem ssBy_mem {α : Type} {f : α → D} {xs : List α} {x : α} (h : x ∈ ssBy f xs) : x ∈ xs := dedBy_mem ((List.mergeSort_perm _ _).mem_iff.mp h)
theorem ssBy_len {α : Type} (f : α → D) (xs : List α) : (ssBy f xs).length ≤ xs.length := by
  have := ss_len (xs.map f)
  rw [ss_map, List.length_map, List.length_map] at this
  exact this
/-- two tellings that put alike apart and in order give the same row -/
theorem ssBy_eq {α : Type} {f h : α → D} {xs : List α} (e1 : ∀ x ∈ xs, ∀ y ∈ xs, (nkD (f x) = nkD (f y) ↔ nkD (h x) = nkD (h y))) (e2 : ∀ x ∈ xs, ∀ y ∈ xs, leD (f x) (f y) = leD (h x) (h y)) : ssBy f xs = ssBy h xs := by
  have key : ∀ ys : List α, (∀ y ∈ ys, y ∈ xs) → dedBy f ys = dedBy h ys := by
    intro ys
    induction ys with
    | nil => intro _; rfl
    | cons y ys ih =>
      intro hy
      unfold dedBy
      rw [ih fun z hz => hy z (List.mem_cons_of_mem _ hz)]
      have : (ys.any fun z => decide (nkD (f z) = nkD (f y))) = ys.any fun z => decide (nkD (h z) = nkD (h y)) := by
        clear ih
        induction ys with
        | nil => rfl
        | cons z zs ih =>
          rw [List.any_cons, List.any_cons, ih fun w hw => hy w (by
            rcases List.mem_cons.mp hw with e | e
            · rw [e]; exact List.mem_cons_self
            · exact List.mem_cons_of_mem _ (List.mem_cons_of_mem _ e))]
          congr 1
          exact decide_eq_decide.mpr (e1 z (hy z (by simp)) y (hy y (by simp)))
      rw [this]
  unfold ssBy
  rw [← key xs fun _ h => h]
  have hm : ∀ x ∈ dedBy f xs, x ∈ xs := fun x hx => dedBy_mem hx
  have := List.map_mergeSort (r := fun a b => leD (f a) (f b)) (s := fun a b => leD (h a) (h b)) (f := fun a : α => a) (l := dedBy f xs) (fun a ha b hb => e2 a (hm a ha) b (hm b hb))
  simpa using this
/-- sorted(set(xs)), xs tuples of one shape -/
theorem ss_go {xs : List D} {r : Rw} (h : ∀ x ∈ xs, D.ty x (.t r) = true) (hp : r.dp ≤ 7) (hl : xs.length ≤ 76) : b1D .set (.lst xs) = some (.set (dedD xs)) ∧ b1D .sorted (.set (dedD xs)) = some (.lst (ss xs)) := by
  have hd := ded_len xs
  have e1 := ty_set h hp (by show _ ≤ 76; omega)
  have e2 := ty_srt (xs := dedD xs) (a := .t r) (fun x hx => h x (ded_mem hx)) (by show r.dp + 1 ≤ 99; omega) (by omega)
  constructor
  · show (setD xs).map D.set = _
    rw [e1]; rfl
  · show (srtD (dedD xs)).map D.lst = _
    rw [e2]; rfl
theorem dedBy_nd {α : Type} (f : α → D) : ∀ xs : List α, (dedBy f xs).Pairwise fun a b => nkD (f b) ≠ nkD (f a)
  | [] => .nil
  | x :: xs => by
    unfold dedBy
    split
    · exact dedBy_nd f xs
    · rename_i h
      refine List.pairwise_cons.mpr ⟨fun y hy e => h ?_, dedBy_nd f xs⟩
      rw [List.any_eq_true]
      exact ⟨y, dedBy_mem hy, decide_eq_true e⟩
theorem ssBy_nd (us : List Str) : (ssBy D.str us).Nodup := by
  unfold ssBy
  refine (List.mergeSort_perm _ _).nodup_iff.mpr ?_
  refine (dedBy_nd D.str us).imp fun {a b} h e => h (by rw [e])
theorem dedBy_all {α : Type} {f : α → D} (inj : ∀ a b, nkD (f a) = nkD (f b) → a = b) : ∀ {xs : List α} {x : α}, x ∈ xs → x ∈ dedBy f xs
  | y :: ys, x, h => by
    unfold dedBy
    rcases List.mem_cons.mp h with e | e
    · split
      · rename_i hc
        obtain ⟨z, hz, hz2⟩ := List.any_eq_true.mp hc
        have := inj _ _ (of_decide_eq_true hz2)
        rw [e, ← this]
        exact dedBy_all inj hz
      · rw [e]; exact List.mem_cons_self
    · split
      · exact dedBy_all inj e
      · exact List.mem_cons_of_mem _ (dedBy_all inj e)
theorem ssBy_all {α : Type} {f : α → D} (inj : ∀ a b, nkD (f a) = nkD (f b) → a = b) {xs : List α} {x : α} (h : x ∈ xs) : x ∈ ssBy f xs := (List.mergeSort_perm _ _).mem_iff.mpr (dedBy_all inj h)
theorem nk_str_inj (a b : Str) (h : nkD (.str a) = nkD (.str b)) : a = b := by
  have h : some (NestedKey.text a) = some (NestedKey.text b) := h
  cases h; rfl
end Cv

/-! Cw4: what draws from the tap: so many takes at most, a thing of which P holds. -/
namespace Cv
open PySem PySem.Spec PyProof.Rows L2
theorem s_get (g : Cf) : pGet.sem g = getD2 := rfl
theorem s_min (g : Cf) : pMin2.sem g = bin2 minD := rfl
theorem s_max (g : Cf) : pMax2.sem g = bin2 maxD := rfl
theorem s_join (g : Cf) : pJoin.sem g = bin2 joinD := rfl
theorem s_index (g : Cf) : pIndex.sem g = bin2 indexD := rfl
theorem s_disp1 (g : Cf) : pDisp1.sem g = disp1D := rfl
theorem s_new (i : Nat) (g : Cf) (ds : List D) : (pNewD i).sem g ds = newDic i := rfl
theorem s_new2 (i j : Nat) (g : Cf) (ds : List D) : (pNewD2 i j).sem g ds = newDic2 i j := rfl
theorem s_bin2 (f : D → D → Option D) (x y : D) : bin2 f [x, y] = M.opt (f x y) := rfl
/-- from any tap that has room: m tells a thing of which P holds, by n takes at most -/
def Dr {α : Type} (n : Int) (m : M α) (P : α → Prop) : Prop := ∀ c S, Tp c S → c + n ≤ 2 ^ 17 → ∃ a S', m S = some (a, S') ∧ P a ∧ Tp (c + n) S'
section
variable {α β γ : Type}
theorem Dr.ret {n : Int} (h : 0 ≤ n) {a : α} {P : α → Prop} (p : P a) : Dr n (M.ret a) P := fun c S T _ => ⟨a, S, rfl, p, T.mono (by omega)⟩
theorem Dr.mono {n k : Int} {m : M α} {P Q : α → Prop} (h : Dr n m P) (hn : n ≤ k) (i : ∀ a, P a → Q a) : Dr k m Q := fun c S T b => by
  obtain ⟨a, S', e, p, T'⟩ := h c S T (by omega)
  exact ⟨a, S', e, i a p, T'.mono (by omega)⟩
theorem Dr.bnd {n k : Int} {m : M α} {f : α → M β} {P : α → Prop} {Q : β → Prop} (h : Dr n m P) (hk : 0 ≤ k) (q : ∀ a, P a → Dr k (f a) Q) : Dr (n + k) (M.bnd m f) Q := fun c S T b => by
  obtain ⟨a, S1, e, p, T1⟩ := h c S T (by omega)
  obtain ⟨b2, S2, e2, p2, T2⟩ := q a p _ S1 T1 (by omega)
  exact ⟨b2, S2, by rw [x_bnd, e]; exact e2, p2, by rw [← Int.add_assoc]; exact T2⟩
/-- one take, then the rest -/
theorem Dr.take {n : Int} {many : Int} {f : D → M β} {Q : β → Prop} (hn : 1 ≤ n) (h1 : 0 < many) (h2 : many < 2 ^ 200) (q : ∀ v : Int, 0 ≤ v → v < many → Dr (n - 1) (f (.int v)) Q) : Dr n (M.bnd (tk_m [.obj 0, .int many]) f) Q := fun c S T b => by
  obtain ⟨v, S1, e, p1, p2, T1⟩ := take_ok T (by omega) h1 h2
  obtain ⟨b2, S2, e2, p3, T2⟩ := q v p1 p2 _ S1 T1 (by omega)
  exact ⟨b2, S2, by rw [x_bnd, e]; exact e2, p3, T2.mono (by omega)⟩
/-- a part that takes k, then the rest -/
theorem Dr.part {n k : Int} {m : M α} {f : α → M β} {P : α → Prop} {Q : β → Prop} (h : Dr k m P) (hn : k ≤ n) (q : ∀ a, P a → Dr (n - k) (f a) Q) : Dr n (M.bnd m f) Q := fun c S T b => by
  obtain ⟨a, S1, e, p, T1⟩ := h c S T (by omega)
  obtain ⟨b2, S2, e2, p2, T2⟩ := q a p _ S1 T1 (by omega)
  exact ⟨b2, S2, by rw [x_bnd, e]; exact e2, p2, T2.mono (by omega)⟩
theorem Dr.take0 {many : Int} (h1 : 0 < many) (h2 : many < 2 ^ 200) : Dr 1 (tk_m [.obj 0, .int many]) fun d => ∃ v : Int, d = .int v ∧ 0 ≤ v ∧ v < many := fun c S T b => by
  obtain ⟨v, S1, e, p1, p2, T1⟩ := take_ok T (by omega) h1 h2
  exact ⟨_, S1, e, ⟨v, rfl, p1, p2⟩, T1⟩
/-- what a comprehension draws -/
theorem Dr.lc {k : Int} {f : β → D} {Q : β → Prop} {e : α → M D} (hk : 0 ≤ k) : ∀ (xs : List α), (∀ x ∈ xs, Dr k (e x) fun d => ∃ b, d = f b ∧ Q b) → Dr (xs.length * k) (lcT (fun _ => M.ret true) e xs) fun ds => ∃ bs : List β, ds = bs.map f ∧ bs.length = xs.length ∧ ∀ b ∈ bs, Q b
  | [], _ => fun c S T _ => ⟨[], S, rfl, ⟨[], rfl, rfl, fun _ h => by simp at h⟩, T.mono (by simp)⟩
  | x :: xs, h => fun c S T b => by
    have hl : ((x :: xs).length : Int) * k = k + (xs.length : Int) * k := by
      rw [List.length_cons, Int.natCast_add, Int.add_mul]
      omega
    have hn : 0 ≤ (xs.length : Int) * k := Int.mul_nonneg (by omega) hk
    rw [hl] at b ⊢
    obtain ⟨d, S1, e1, ⟨y, rfl, hy⟩, T1⟩ := h x List.mem_cons_self c S T (by omega)
    obtain ⟨ds, S2, e2, ⟨ys, rfl, ly, hys⟩, T2⟩ := Dr.lc hk xs (fun z hz => h z (List.mem_cons_of_mem _ hz)) _ S1 T1 (by omega)
    refine ⟨f y :: ys.map f, S2, ?_, ⟨y :: ys, rfl, by rw [List.length_cons, List.length_cons, ly], fun b hb => ?_⟩, by rw [← Int.add_assoc]; exact T2⟩
    · show M.bnd (M.ret true) (fun b => if b = true then M.bnd (e x) fun y => M.bnd (lcT _ e xs) fun ys => M.ret (y :: ys) else lcT _ e xs) S = _
      simp only [x_bnd, x_ret, if_true, e1, e2]
    · rcases List.mem_cons.mp hb with r | r
      · rw [r]; exact hy
      · exact hys b r
/-- .. and what it belongs to -/
theorem Dr.lcp {k : Int} {f : β → D} {p : β → α} {Q : β → Prop} {e : α → M D} (hk : 0 ≤ k) : ∀ (xs : List α), (∀ x ∈ xs, Dr k (e x) fun d => ∃ b, d = f b ∧ p b = x ∧ Q b) → Dr (xs.length * k) (lcT (fun _ => M.ret true) e xs) fun ds => ∃ bs : List β, ds = bs.map f ∧ bs.map p = xs ∧ ∀ b ∈ bs, Q b
  | [], _ => fun c S T _ => ⟨[], S, rfl, ⟨[], rfl, rfl, fun _ h => by simp at h⟩, T.mono (by simp)⟩
  | x :: xs, h => fun c S T b => by
    have hl : ((x :: xs).length : Int) * k = k + (xs.length : Int) * k := by
      rw [List.length_cons, Int.natCast_add, Int.add_mul]
      omega
    have hn : 0 ≤ (xs.length : Int) * k := Int.mul_nonneg (by omega) hk
    rw [hl] at b ⊢
    obtain ⟨d, S1, e1, ⟨y, rfl, hp, hy⟩, T1⟩ := h x List.mem_cons_self c S T (by omega)
    obtain ⟨ds, S2, e2, ⟨ys, rfl, ly, hys⟩, T2⟩ := Dr.lcp hk xs (fun z hz => h z (List.mem_cons_of_mem _ hz)) _ S1 T1 (by omega)
    refine ⟨f y :: ys.map f, S2, ?_, ⟨y :: ys, rfl, by rw [List.map_cons, ly, hp], fun b hb => ?_⟩, by rw [← Int.add_assoc]; exact T2⟩
    · show M.bnd (M.ret true) (fun b => if b = true then M.bnd (e x) fun y => M.bnd (lcT _ e xs) fun ys => M.ret (y :: ys) else lcT _ e xs) S = _
      simp only [x_bnd, x_ret, if_true, e1, e2]
    · rcases List.mem_cons.mp hb with r | r
      · rw [r]; exact hy
      · exact hys b r
/-- a loop that draws: an invariant by the turns made -/
theorem Dr.frr0 {k : Int} {a : D → En → M En} {b : En → M (Fl × En)} {f : α → D} (I : Nat → En → Prop) (L : List α) (hk : 0 ≤ k) : ∀ (xs : List α) (i : Nat) (en : En), L.drop i = xs → I i en →
    (∀ j x en, L[j]? = some x → I j en → Dr k (M.bnd (a (f x) en) b) fun r => r.1 = .nx ∧ I (j + 1) r.2) → Dr (xs.length * k) (forM a b (xs.map f) en) fun r => r.1 = .nx ∧ I (i + xs.length) r.2
  | [], i, en, _, h, _ => fun c S T _ => ⟨(.nx, en), S, rfl, ⟨rfl, h⟩, T.mono (by simp)⟩
  | x :: xs, i, en, hN, h, q => fun c S T bd => by
    have hl : ((x :: xs).length : Int) * k = k + (xs.length : Int) * k := by
      rw [List.length_cons, Int.natCast_add, Int.add_mul]
      omega
    have hn : 0 ≤ (xs.length : Int) * k := Int.mul_nonneg (by omega) hk
    rw [hl] at bd ⊢
    have hx : L[i]? = some x := by
      have : (L.drop i)[0]? = some x := by rw [hN]; rfl
      rw [List.getElem?_drop] at this
      simpa using this
    have hd : L.drop (i + 1) = xs := by
      rw [← List.drop_drop, hN]
      rfl
    obtain ⟨⟨fl, en1⟩, S1, e1, ⟨h1, h2⟩, T1⟩ := q i x en hx h c S T (by omega)
    have h1 : fl = .nx := h1
    subst h1
    obtain ⟨r, S2, e2, h3, T2⟩ := Dr.frr0 I L hk xs (i + 1) en1 hd h2 q _ S1 T1 (by omega)
    refine ⟨r, S2, ?_, ?_, by rw [← Int.add_assoc]; exact T2⟩
    · obtain ⟨en0, S0, f1, f2⟩ := bnd_inv e1
      show M.bnd (a (f x) en) (fun en1 => M.bnd (b en1) _) S = _
      rw [x_bnd, f1]
      show M.bnd (b en0) _ S0 = _
      rw [x_bnd, f2]
      exact e2
    · have : i + 1 + xs.length = i + (x :: xs).length := by rw [List.length_cons]; omega
      rw [this] at h3
      exact h3
theorem Dr.frr {k : Int} {a : D → En → M En} {b : En → M (Fl × En)} {f : α → D} (I : Nat → En → Prop) (hk : 0 ≤ k) (xs : List α) {en : En} (h : I 0 en)
    (q : ∀ j x en, xs[j]? = some x → I j en → Dr k (M.bnd (a (f x) en) b) fun r => r.1 = .nx ∧ I (j + 1) r.2) : Dr (xs.length * k) (forM a b (xs.map f) en) fun r => r.1 = .nx ∧ I xs.length r.2 := by
  have := Dr.frr0 (k := k) (a := a) (b := b) (f := f) I xs hk xs 0 en rfl h q
  rw [Nat.zero_add] at this
  exact this
theorem get_lt {xs : List α} {j : Nat} {x : α} (h : xs[j]? = some x) : j < xs.length := (List.getElem?_eq_some_iff.mp h).1
theorem get_mem {xs : List α} {j : Nat} {x : α} (h : xs[j]? = some x) : x ∈ xs := List.mem_of_getElem? h
end
theorem ix_in {xs : List D} {v : Int} (h0 : 0 ≤ v) (h : v < xs.length) : ∃ d, d ∈ xs ∧ idxD (.lst xs) (.int v) = some d := by
  have hl : v.toNat < xs.length := by omega
  exact ⟨xs[v.toNat], List.getElem_mem hl, at_i h0 (List.getElem?_eq_getElem hl)⟩
theorem ix_map {α : Type} {f : α → D} {xs : List α} {v : Int} (h0 : 0 ≤ v) (h : v < xs.length) : ∃ a, a ∈ xs ∧ idxD (.lst (xs.map f)) (.int v) = some (f a) := by
  have hl : v.toNat < xs.length := by omega
  exact ⟨xs[v.toNat], List.getElem_mem hl, at_i h0 (by rw [List.getElem?_map, List.getElem?_eq_getElem hl]; rfl)⟩
/-- keys of one shape -/
theorem dk_ty {xs : List D} {r : Rw} (h : ∀ x ∈ xs, D.ty x (.t r) = true) (hp : r.dp ≤ 7) : dkOk xs = true := by
  unfold dkOk
  rw [Bool.or_eq_true]
  refine .inl (List.all_eq_true.mpr fun x hx => ?_)
  have q := h x hx
  cases x with
  | tup ys =>
    refine Bool.and_eq_true_iff.mpr ⟨ty_nk q, decide_eq_true ?_⟩
    have := (ty_gd q).dp
    have e : (Ty.t r).dp = r.dp + 1 := rfl
    omega
  | _ => cases q
theorem dk_strs (xs : List Str) : dkOk (xs.map D.str) = true := by
  unfold dkOk
  rw [Bool.or_eq_true]
  refine .inr (List.all_eq_true.mpr fun x hx => ?_)
  obtain ⟨s, _, rfl⟩ := List.mem_map.mp hx
  rfl
theorem nk_eq {x y : D} {a : Ty} (hx : D.ty x a = true) (hy : D.ty y a = true) : nkD x = nkD y ↔ x = y := by
  constructor
  · intro h
    obtain ⟨k, e⟩ := Option.isSome_iff_exists.mp (ty_nk hx)
    exact nk_inj x y k e (h ▸ e)
  · intro h; rw [h]
theorem has_str {xs : List Str} {s : Str} : hasD (xs.map D.str) (.str s) = decide (s ∈ xs) := by
  unfold hasD
  rw [List.any_map]
  rw [Bool.eq_iff_iff, List.any_eq_true, decide_eq_true_eq]
  constructor
  · rintro ⟨x, hx, h⟩
    have h := of_decide_eq_true h
    have : x = s := by
      have e : some (NestedKey.text x) = some (NestedKey.text s) := h
      cases e; rfl
    rw [← this]; exact hx
  · intro h
    exact ⟨s, h, decide_eq_true rfl⟩
theorem lk_str {α : Type} {f : α → D} {k : α → Str} {s : Str} : ∀ {xs : List α}, lkD (xs.map fun x => .str (k x)) (xs.map f) (.str s) = (xs.find? fun x => decide (k x = s)).map f
  | [] => rfl
  | x :: xs => by
    show (if nkD (.str (k x)) = nkD (.str s) then some (f x) else lkD _ _ _) = _
    by_cases h : k x = s
    · rw [if_pos (by rw [h])]
      simp [h]
    · rw [if_neg (fun e => h (by
        have e : some (NestedKey.text (k x)) = some (NestedKey.text s) := e
        cases e; rfl)), lk_str]
      simp [h]
/-- a key put in -/
theorem put_map {α : Type} {f g : α → D} {x v : D} (a0 : α) (md : α → α) (h1 : f a0 = x) (h2 : g a0 = v) (h3 : ∀ a, f (md a) = f a) (h4 : ∀ a, g (md a) = v) (l : List α) :
    ∃ l' : List α, putKs (l.map f) x = l'.map f ∧ putVs (l.map f) (l.map g) x v = l'.map g ∧ l'.length ≤ l.length + 1 ∧ ∀ b ∈ l', b ∈ l ∨ b = a0 ∨ ∃ a ∈ l, b = md a := by
  unfold putKs putVs
  cases hasD (l.map f) x with
  | false => exact ⟨l ++ [a0], by rw [if_neg (by decide), List.map_append, ← h1]; rfl, by rw [if_neg (by decide), List.map_append, ← h2]; rfl, by rw [List.length_append]; exact Nat.le_refl _, fun b hb => by
      rcases List.mem_append.mp hb with e | e
      · exact .inl e
      · exact .inr (.inl (List.mem_singleton.mp e))⟩
  | true =>
    refine ⟨l.map fun a => if nkD (f a) = nkD x then md a else a, ?_, ?_, by rw [List.length_map]; omega, fun b hb => ?_⟩
    · rw [if_pos rfl, List.map_map]
      refine List.map_congr_left fun a _ => ?_
      show f a = f (if nkD (f a) = nkD x then md a else a)
      split
      · rw [h3]
      · rfl
    · rw [if_pos rfl, List.map_map]
      clear h1 h2
      induction l with
      | nil => rfl
      | cons a l ih =>
        rw [List.map_cons, List.map_cons, List.zipWith_cons_cons, ih, List.map_cons]
        congr 1
        show _ = g (if nkD (f a) = nkD x then md a else a)
        split
        · rw [h4]
        · rfl
    · obtain ⟨a, ha, rfl⟩ := List.mem_map.mp hb
      by_cases c : nkD (f a) = nkD x
      · rw [if_pos c]; exact .inr (.inr ⟨a, ha, rfl⟩)
      · rw [if_neg c]; exact .inl ha
theorem put_new {α : Type} {f g : α → D} {x v : D} (a0 : α) (h1 : f a0 = x) (h2 : g a0 = v) {l : List α} (h : hasD (l.map f) x = false) : putKs (l.map f) x = (l ++ [a0]).map f ∧ putVs (l.map f) (l.map g) x v = (l ++ [a0]).map g := by
  unfold putKs putVs
  rw [h]
  exact ⟨by rw [if_neg (by decide), List.map_append, ← h1]; rfl, by rw [if_neg (by decide), List.map_append, ← h2]; rfl⟩
theorem lo_ret {x y : Int} (hy : 0 < y) (h1 : x.natAbs < 2 ^ 3000) (h2 : y.natAbs < 2 ^ 3000) : lo_m [.int x, .int y] = M.ret (fr (lw x y)) := by
  funext S
  exact r_lowest hy h1 h2
theorem sl_to {xs : List D} (k : Nat) : sliD (.tup xs) none (some (k : Int)) = some (.tup (xs.take k)) := by
  show some (D.tup (cutD xs none (some (k : Int)))) = _
  rw [cut_to _ (by omega)]
  rfl
theorem items_map {α : Type} (f g : α → D) : ∀ l : List α, itemsD (l.map f) (l.map g) = l.map fun a => .tup [f a, g a]
  | [] => rfl
  | a :: l => by
    show D.tup [f a, g a] :: itemsD (l.map f) (l.map g) = _
    rw [items_map f g l]
    rfl
end Cv

namespace liftedworlds_k13_put
open PySem PySem.Spec PyProof.Rows L2 Cv
def top (i : Nat) : Stmt := PySem.Challenge.pw_liftedworlds_k13_put.main.body.getD i (.Pass ⟨0, 0, 0, 0⟩)
/-! _law_tap -/
abbrev st_w_tap : Stmt := top 5
def N_w_tap : List Str := ["_law_script"]
def q_w_tap : Ck := ⟨N_w_tap, [], []⟩
def b_w_tap : List S := [.ret (.mko ["cells", "spot", "rest", "calls"] (.c (.b1 .list (.sli (.var 0) .n (.s (.int 63)))) (.c (.int 0) (.c (.int 0) (.c (.int 0) .n)))))]
def c_w_tap : Cf := ⟨[], []⟩
def m_w_tap : List D → M D := run c_w_tap ⟨N_w_tap.length, b_w_tap⟩ 1
theorem k_w_tap : chkSs q_w_tap b_w_tap ⟨defScope st_w_tap, none⟩ (defBody st_w_tap) = true := by decide +kernel
theorem s_w_tap : FnScope N_w_tap ["_law_script"] (defScope st_w_tap) := ⟨rfl, rfl, rfl, by decide +kernel, rfl, by decide +kernel, by decide +kernel⟩
theorem f_w_tap {P : Program} {w : World} {K : PySem.W.Frag} {mg : Str → Option Value} {base : Heap} {f : Addr} {fd : FuncData} (D : FunD K "_law_tap" "_law_tap" (defArgs st_w_tap) (defBody st_w_tap) (defScope st_w_tap) [] [] f fd)
    (hm : mg "_law_tap" = some (.ref f)) (hb : ∀ y ∈ bNames, mg y = none) : Kn P w K mg base 1 "_law_tap" 1 m_w_tap :=
  def_K D hm s_w_tap rfl rfl k_w_tap hb .nil .nil (D.bindsN fun _ _ _ _ _ _ us hl => match us, hl with | [_], _ => rfl)
/-! _law_take -/
abbrev st_w_take : Stmt := top 6
def N_w_take : List Str := ["_law_tap_here", "_law_many", "_law_calls", "_law_figure", "_law_spot", "_law_cells", "_law_cell", "_law_once"]
def q_w_take : Ck := ⟨N_w_take, [], []⟩
def b_w_take : List S := [.set (.nm 2) (.bin .add (.fld (.var 0) "calls") (.int 1)), .setf (.var 0) "calls" (.var 2), .ife (.cmp .gt (.fld (.var 0) "rest") (.int 0)) [.set (.nm 3) (.bin .mod (.fld (.var 0) "rest") (.var 1)), .setf (.var 0) "rest" (.bin .fdiv (.fld (.var 0) "rest") (.var 1)), .ret (.var 3)] [], .set (.nm 4) (.fld (.var 0) "spot"), .setf (.var 0) "spot" (.bin .add (.var 4) (.int 1)), .set (.nm 5) (.fld (.var 0) "cells"), .set (.nm 6) (.ife (.cmp .gt (.b1 .len (.var 5)) (.int 0)) (.idx (.var 5) (.bin .mod (.var 4) (.b1 .len (.var 5)))) (.int 5)), .ife (.and (.cmp .lt (.var 4) (.b1 .len (.var 5))) (.cmp .ge (.var 6) (.bin .pow (.int 10) (.int 18)))) [.setf (.var 0) "rest" (.bin .fdiv (.var 6) (.var 1)), .ret (.bin .mod (.var 6) (.var 1))] [], .set (.nm 7) (.bin .mod (.bin .pow (.bin .add (.bin .add (.bin .mod (.var 6) (.int 2147483629)) (.bin .mul (.int 6007) (.var 2))) (.int 11)) (.int 5)) (.int 2147483647)), .ret (.bin .mod (.bin .fdiv (.bin .mod (.bin .pow (.bin .add (.var 7) (.bin .mul (.bin .mul (.int 4099) (.var 2)) (.var 2))) (.int 5)) (.int 2147483587)) (.int 32)) (.var 1))]
def c_w_take : Cf := ⟨[], []⟩
def m_w_take : List D → M D := run c_w_take ⟨N_w_take.length, b_w_take⟩ 2
theorem k_w_take : chkSs q_w_take b_w_take ⟨defScope st_w_take, none⟩ (defBody st_w_take) = true := by decide +kernel
theorem s_w_take : FnScope N_w_take ["_law_tap_here", "_law_many"] (defScope st_w_take) := ⟨rfl, rfl, rfl, by decide +kernel, rfl, by decide +kernel, by decide +kernel⟩
theorem f_w_take {P : Program} {w : World} {K : PySem.W.Frag} {mg : Str → Option Value} {base : Heap} {f : Addr} {fd : FuncData} (D : FunD K "_law_take" "_law_take" (defArgs st_w_take) (defBody st_w_take) (defScope st_w_take) [] [] f fd)
    (hm : mg "_law_take" = some (.ref f)) (hb : ∀ y ∈ bNames, mg y = none) : Kn P w K mg base 1 "_law_take" 2 m_w_take :=
  def_K D hm s_w_take rfl rfl k_w_take hb .nil .nil (D.bindsN fun _ _ _ _ _ _ us hl => match us, hl with | [_, _], _ => rfl)
/-! _law_lowest -/
abbrev st_w_lowest : Stmt := top 7
def N_w_lowest : List Str := ["_law_over", "_law_under", "_law_one", "_law_other"]
def q_w_lowest : Ck := ⟨N_w_lowest, [], []⟩
def b_w_lowest_1 : List S := [.par 2 3 (.bin .mod (.var 3) (.var 2)) (.var 2)]
def b_w_lowest : List S := [.par 2 3 (.b1 .abs (.var 0)) (.var 1), .whl (.cmp .gt (.var 2) (.int 0)) b_w_lowest_1, .ret (.tup (.c (.bin .fdiv (.var 0) (.var 3)) (.c (.bin .fdiv (.var 1) (.var 3)) .n)))]
def c_w_lowest : Cf := ⟨[], []⟩
def m_w_lowest : List D → M D := run c_w_lowest ⟨N_w_lowest.length, b_w_lowest⟩ 2
theorem k_w_lowest : chkSs q_w_lowest b_w_lowest ⟨defScope st_w_lowest, none⟩ (defBody st_w_lowest) = true := by decide +kernel
theorem s_w_lowest : FnScope N_w_lowest ["_law_over", "_law_under"] (defScope st_w_lowest) := ⟨rfl, rfl, rfl, by decide +kernel, rfl, by decide +kernel, by decide +kernel⟩
theorem f_w_lowest {P : Program} {w : World} {K : PySem.W.Frag} {mg : Str → Option Value} {base : Heap} {f : Addr} {fd : FuncData} (D : FunD K "_law_lowest" "_law_lowest" (defArgs st_w_lowest) (defBody st_w_lowest) (defScope st_w_lowest) [] [] f fd)
    (hm : mg "_law_lowest" = some (.ref f)) (hb : ∀ y ∈ bNames, mg y = none) : Kn P w K mg base 1 "_law_lowest" 2 m_w_lowest :=
  def_K D hm s_w_lowest rfl rfl k_w_lowest hb .nil .nil (D.bindsN fun _ _ _ _ _ _ us hl => match us, hl with | [_, _], _ => rfl)
/-! _law_table -/
abbrev st_w_table : Stmt := top 8
def N_w_table : List Str := ["_law_tap_here", "_law_name", "_law_words", "_law_most", "_law_width", "_law_key", "_law_under", "_law_rows", "_law_full", "_law_k", "_law_row", "_law_over", "_law_j"]
def q_w_table : Ck := ⟨N_w_table, [("_law_take", 2), ("_law_lowest", 2)], []⟩
def e_w_table_1 : E := .lc1 [12] (.nm 12) (.rg1 (.var 4)) .n (.idx (.var 2) (.call 0 (.c (.var 0) (.c (.b1 .len (.var 2)) .n))))
def b_w_table_2 : List S := [.set (.nm 10) (.b1 .tuple e_w_table_1), .set (.nm 11) (.bin .add (.int 1) (.call 0 (.c (.var 0) (.c (.var 6) .n)))), .set (.nm 11) (.prim pMin2 (.c (.var 11) (.c (.bin .sub (.var 6) (.prim pGet (.c (.rd 8) (.c (.sli (.var 10) .n (.s (.var 5))) (.c (.int 0) .n))))) .n))), .ife (.and (.cmp .notin (.var 10) (.rd 7)) (.cmp .gt (.var 11) (.int 0))) [.put 7 (.var 10) (.call 1 (.c (.var 11) (.c (.var 6) .n))), .put 8 (.sli (.var 10) .n (.s (.var 5))) (.bin .add (.prim pGet (.c (.rd 8) (.c (.sli (.var 10) .n (.s (.var 5))) (.c (.int 0) .n)))) (.var 11))] []]
def b_w_table : List S := [.set (.nm 4) (.bin .add (.int 1) (.call 0 (.c (.var 0) (.c (.int 3) .n)))), .set (.nm 5) (.idx (.lst (.c (.var 4) (.c (.var 4) (.c (.call 0 (.c (.var 0) (.c (.bin .add (.var 4) (.int 1)) .n))) .n)))) (.call 0 (.c (.var 0) (.c (.int 3) .n)))), .set (.nm 6) (.idx (.lst (.c (.int 2) (.c (.int 1) (.c (.int 3) (.c (.int 4) (.c (.int 8) .n)))))) (.call 0 (.c (.var 0) (.c (.int 5) .n)))), .prim (pNewD2 7 8) .n, .frr (.nm 9) (.rg1 (.var 3)) b_w_table_2, .frz 7, .ret (.tup (.c (.var 1) (.c (.var 4) (.c (.var 5) (.c (.b1 .tuple (.b1 .sorted (.m0 .items (.var 7)))) .n)))))]
def c_w_table : Cf := ⟨[], [m_w_take, m_w_lowest]⟩
def m_w_table : List D → M D := run c_w_table ⟨N_w_table.length, b_w_table⟩ 4
@[simp] theorem hf_w_table_0 : c_w_table.fn[0]? = some m_w_take := (rfl)
@[simp] theorem hf_w_table_1 : c_w_table.fn[1]? = some m_w_lowest := (rfl)
theorem k_w_table : chkSs q_w_table b_w_table ⟨defScope st_w_table, none⟩ (defBody st_w_table) = true := by decide +kernel
theorem s_w_table : FnScope N_w_table ["_law_tap_here", "_law_name", "_law_words", "_law_most"] (defScope st_w_table) := ⟨rfl, rfl, rfl, by decide +kernel, rfl, by decide +kernel, by decide +kernel⟩
theorem f_w_table {P : Program} {w : World} {K : PySem.W.Frag} {mg : Str → Option Value} {base : Heap} {f : Addr} {fd : FuncData} (D : FunD K "_law_table" "_law_table" (defArgs st_w_table) (defBody st_w_table) (defScope st_w_table) [] [] f fd)
    (hm : mg "_law_table" = some (.ref f)) (hb : ∀ y ∈ bNames, mg y = none) (e0 : Kn P w K mg base 1 "_law_take" 2 m_w_take) (e1 : Kn P w K mg base 1 "_law_lowest" 2 m_w_lowest) : Kn P w K mg base 2 "_law_table" 4 m_w_table :=
  def_K D hm s_w_table rfl rfl k_w_table hb (.cons (e0.mono (by decide)) (.cons (e1.mono (by decide)) .nil)) .nil (D.bindsN fun _ _ _ _ _ _ us hl => match us, hl with | [_, _, _, _], _ => rfl)
/-! _law_base -/
abbrev st_w_base : Stmt := top 9
def N_w_base : List Str := ["_law_tap_here", "_law_most", "_law_pool", "_law_words", "_law_found", "_law_left", "_law_name", "_law_table_here"]
def q_w_base : Ck := ⟨N_w_base, [("_law_take", 2), ("_law_table", 4)], []⟩
def b_w_base_1 : List S := [.ife (.and (.cmp .gt (.call 0 (.c (.var 0) (.c (.int 4) .n))) (.int 0)) (.cmp .lt (.b1 .len (.rd 4)) (.int 4))) [.set (.nm 7) (.call 1 (.c (.var 0) (.c (.var 6) (.c (.var 3) (.c (.ife (.cmp .gt (.var 5) (.int 0)) (.idx (.lst (.c (.var 5) (.c (.call 0 (.c (.var 0) (.c (.bin .add (.var 5) (.int 1)) .n))) .n))) (.call 0 (.c (.var 0) (.c (.int 2) .n)))) (.int 0)) .n))))), .set (.nm 5) (.bin .sub (.var 5) (.b1 .len (.idx (.var 7) (.int 3)))), .app 4 (.var 7)] []]
def b_w_base : List S := [.par 2 3 (.lst (.c (.str "a") (.c (.str "at") (.c (.str "link") (.c (.str "row") (.c (.str "zzzzzzzz") .n)))))) (.sli (.lst (.c (.str "a") (.c (.str "b") (.c (.str "cc") (.c (.str "row") .n))))) .n (.s (.bin .add (.int 2) (.call 0 (.c (.var 0) (.c (.int 3) .n)))))), .paro 4 5 true false (.lst .n) (.var 1), .frr (.nm 6) (.sq (.sli (.var 2) (.s (.call 0 (.c (.var 0) (.c (.int 3) .n)))) .n)) b_w_base_1, .frz 4, .ret (.b1 .tuple (.var 4))]
def c_w_base : Cf := ⟨[], [m_w_take, m_w_table]⟩
def m_w_base : List D → M D := run c_w_base ⟨N_w_base.length, b_w_base⟩ 2
@[simp] theorem hf_w_base_0 : c_w_base.fn[0]? = some m_w_take := (rfl)
@[simp] theorem hf_w_base_1 : c_w_base.fn[1]? = some m_w_table := (rfl)
theorem k_w_base : chkSs q_w_base b_w_base ⟨defScope st_w_base, none⟩ (defBody st_w_base) = true := by decide +kernel
theorem s_w_base : FnScope N_w_base ["_law_tap_here", "_law_most"] (defScope st_w_base) := ⟨rfl, rfl, rfl, by decide +kernel, rfl, by decide +kernel, by decide +kernel⟩
theorem f_w_base {P : Program} {w : World} {K : PySem.W.Frag} {mg : Str → Option Value} {base : Heap} {f : Addr} {fd : FuncData} (D : FunD K "_law_base" "_law_base" (defArgs st_w_base) (defBody st_w_base) (defScope st_w_base) [] [] f fd)
    (hm : mg "_law_base" = some (.ref f)) (hb : ∀ y ∈ bNames, mg y = none) (e0 : Kn P w K mg base 1 "_law_take" 2 m_w_take) (e1 : Kn P w K mg base 2 "_law_table" 4 m_w_table) : Kn P w K mg base 3 "_law_base" 2 m_w_base :=
  def_K D hm s_w_base rfl rfl k_w_base hb (.cons (e0.mono (by decide)) (.cons (e1.mono (by decide)) .nil)) .nil (D.bindsN fun _ _ _ _ _ _ us hl => match us, hl with | [_, _], _ => rfl)
/-! put_in -/
abbrev st_put_in : Stmt := top 1
def N_put_in : List Str := ["join", "putting", "found", "name", "terms", "words", "kind", "word"]
def q_put_in : Ck := ⟨N_put_in, [], []⟩
def e_put_in_1 : E := .lc1 [6, 7] (.tp2 (.nm 6) (.nm 7)) (.sq (.var 4)) .n (.ife (.and (.cmp .eq (.var 6) (.str "any")) (.cmp .isin (.var 7) (.var 1))) (.tup (.c (.str "word") (.c (.idx (.var 1) (.var 7)) .n))) (.tup (.c (.var 6) (.c (.var 7) .n))))
def b_put_in_2 : List S := [.setc 5 e_put_in_1, .app 2 (.tup (.c (.var 3) (.c (.b1 .tuple (.var 5)) .n)))]
def b_put_in : List S := [.seto 2 (.lst .n), .frr (.tp2 (.nm 3) (.nm 4)) (.sq (.var 0)) b_put_in_2, .frz 2, .ret (.b1 .tuple (.b1 .sorted (.b1 .set (.var 2))))]
def c_put_in : Cf := ⟨[], []⟩
def m_put_in : List D → M D := run c_put_in ⟨N_put_in.length, b_put_in⟩ 2
theorem k_put_in : chkSs q_put_in b_put_in ⟨defScope st_put_in, none⟩ (defBody st_put_in) = true := by decide +kernel
theorem s_put_in : FnScope N_put_in ["join", "putting"] (defScope st_put_in) := ⟨rfl, rfl, rfl, by decide +kernel, rfl, by decide +kernel, by decide +kernel⟩
theorem f_put_in {P : Program} {w : World} {K : PySem.W.Frag} {mg : Str → Option Value} {base : Heap} {f : Addr} {fd : FuncData} (D : FunD K "put_in" "put_in" (defArgs st_put_in) (defBody st_put_in) (defScope st_put_in) [] [] f fd)
    (hm : mg "put_in" = some (.ref f)) (hb : ∀ y ∈ bNames, mg y = none) : Kn P w K mg base 1 "put_in" 2 m_put_in :=
  def_K D hm s_put_in rfl rfl k_put_in hb .nil .nil (D.bindsN fun _ _ _ _ _ _ us hl => match us, hl with | [_, _], _ => rfl)
/-! put_words -/
abbrev st_put_words : Stmt := top 3
def N_put_words : List Str := ["question", "names", "word", "joins", "join", "name"]
def q_put_words : Ck := ⟨N_put_words, [("put_in", 2)], []⟩
def e_put_words_1 : E := .lc1 [4, 5] (.tp2 (.nm 4) (.nm 5)) (.zip true (.var 0) (.var 1)) .n (.call 0 (.c (.var 4) (.c (.prim pDisp1 (.c (.var 5) (.c (.var 2) .n))) .n)))
def b_put_words : List S := [.setc 3 e_put_words_1, .ret (.b1 .tuple (.b1 .sorted (.b1 .set (.var 3))))]
def c_put_words : Cf := ⟨[], [m_put_in]⟩
def m_put_words : List D → M D := run c_put_words ⟨N_put_words.length, b_put_words⟩ 3
@[simp] theorem hf_put_words_0 : c_put_words.fn[0]? = some m_put_in := (rfl)
theorem k_put_words : chkSs q_put_words b_put_words ⟨defScope st_put_words, none⟩ (defBody st_put_words) = true := by decide +kernel
theorem s_put_words : FnScope N_put_words ["question", "names", "word"] (defScope st_put_words) := ⟨rfl, rfl, rfl, by decide +kernel, rfl, by decide +kernel, by decide +kernel⟩
theorem f_put_words {P : Program} {w : World} {K : PySem.W.Frag} {mg : Str → Option Value} {base : Heap} {f : Addr} {fd : FuncData} (D : FunD K "put_words" "put_words" (defArgs st_put_words) (defBody st_put_words) (defScope st_put_words) [] [] f fd)
    (hm : mg "put_words" = some (.ref f)) (hb : ∀ y ∈ bNames, mg y = none) (e0 : Kn P w K mg base 1 "put_in" 2 m_put_in) : Kn P w K mg base 2 "put_words" 3 m_put_words :=
  def_K D hm s_put_words rfl rfl k_put_words hb (.cons (e0.mono (by decide)) .nil) .nil (D.bindsN fun _ _ _ _ _ _ us hl => match us, hl with | [_, _, _], _ => rfl)
/-! facts_by -/
abbrev st_facts_by : Stmt := top 2
def N_facts_by : List Str := ["join", "putting", "known", "name", "terms", "kind", "word"]
def q_facts_by : Ck := ⟨N_facts_by, [("put_in", 2)], []⟩
def e_facts_by_1 : E := .lc1 [5, 6] (.tp2 (.nm 5) (.nm 6)) (.sq (.var 4)) .n (.var 6)
def e_facts_by_2 : E := .lc1 [3, 4] (.tp2 (.nm 3) (.nm 4)) (.sq (.call 0 (.c (.var 0) (.c (.var 2) .n)))) .n (.tup (.c (.var 3) (.c (.b1 .tuple e_facts_by_1) .n)))
def b_facts_by : List S := [.set (.nm 2) (.b1 .dict (.var 1)), .ret (.b1 .tuple e_facts_by_2)]
def c_facts_by : Cf := ⟨[], [m_put_in]⟩
def m_facts_by : List D → M D := run c_facts_by ⟨N_facts_by.length, b_facts_by⟩ 2
@[simp] theorem hf_facts_by_0 : c_facts_by.fn[0]? = some m_put_in := (rfl)
theorem k_facts_by : chkSs q_facts_by b_facts_by ⟨defScope st_facts_by, none⟩ (defBody st_facts_by) = true := by decide +kernel
theorem s_facts_by : FnScope N_facts_by ["join", "putting"] (defScope st_facts_by) := ⟨rfl, rfl, rfl, by decide +kernel, rfl, by decide +kernel, by decide +kernel⟩
theorem f_facts_by {P : Program} {w : World} {K : PySem.W.Frag} {mg : Str → Option Value} {base : Heap} {f : Addr} {fd : FuncData} (D : FunD K "facts_by" "facts_by" (defArgs st_facts_by) (defBody st_facts_by) (defScope st_facts_by) [] [] f fd)
    (hm : mg "facts_by" = some (.ref f)) (hb : ∀ y ∈ bNames, mg y = none) (e0 : Kn P w K mg base 1 "put_in" 2 m_put_in) : Kn P w K mg base 2 "facts_by" 2 m_facts_by :=
  def_K D hm s_facts_by rfl rfl k_facts_by hb (.cons (e0.mono (by decide)) .nil) .nil (D.bindsN fun _ _ _ _ _ _ us hl => match us, hl with | [_, _], _ => rfl)
/-! _law_variables -/
abbrev st_w_variables : Stmt := top 11
def N_w_variables : List Str := ["_law_join_here", "_law_found", "_law_name", "_law_terms", "_law_term"]
def q_w_variables : Ck := ⟨N_w_variables, [], []⟩
def e_w_variables_1 : E := .lc1 [4] (.nm 4) (.sq (.var 3)) (.s (.cmp .eq (.idx (.var 4) (.int 0)) (.str "any"))) (.idx (.var 4) (.int 1))
def b_w_variables_2 : List S := [.ext 1 e_w_variables_1]
def b_w_variables : List S := [.seto 1 (.lst .n), .frr (.tp2 (.nm 2) (.nm 3)) (.sq (.var 0)) b_w_variables_2, .frz 1, .ret (.b1 .sorted (.b1 .set (.var 1)))]
def c_w_variables : Cf := ⟨[], []⟩
def m_w_variables : List D → M D := run c_w_variables ⟨N_w_variables.length, b_w_variables⟩ 1
theorem k_w_variables : chkSs q_w_variables b_w_variables ⟨defScope st_w_variables, none⟩ (defBody st_w_variables) = true := by decide +kernel
theorem s_w_variables : FnScope N_w_variables ["_law_join_here"] (defScope st_w_variables) := ⟨rfl, rfl, rfl, by decide +kernel, rfl, by decide +kernel, by decide +kernel⟩
theorem f_w_variables {P : Program} {w : World} {K : PySem.W.Frag} {mg : Str → Option Value} {base : Heap} {f : Addr} {fd : FuncData} (D : FunD K "_law_variables" "_law_variables" (defArgs st_w_variables) (defBody st_w_variables) (defScope st_w_variables) [] [] f fd)
    (hm : mg "_law_variables" = some (.ref f)) (hb : ∀ y ∈ bNames, mg y = none) : Kn P w K mg base 1 "_law_variables" 1 m_w_variables :=
  def_K D hm s_w_variables rfl rfl k_w_variables hb .nil .nil (D.bindsN fun _ _ _ _ _ _ us hl => match us, hl with | [_], _ => rfl)
/-! _law_put -/
abbrev st_w_put : Stmt := top 13
def N_w_put : List Str := ["_law_join_here", "_law_name", "_law_word", "_law_found", "_law_own", "_law_terms", "_law_term"]
def q_w_put : Ck := ⟨N_w_put, [], []⟩
def e_w_put_1 : E := .lc1 [6] (.nm 6) (.sq (.var 5)) .n (.ife (.cmp .eq (.var 6) (.tup (.c (.str "any") (.c (.var 1) .n)))) (.tup (.c (.str "word") (.c (.var 2) .n))) (.var 6))
def b_w_put_2 : List S := [.app 3 (.tup (.c (.var 4) (.c (.b1 .tuple e_w_put_1) .n)))]
def b_w_put : List S := [.seto 3 (.lst .n), .frr (.tp2 (.nm 4) (.nm 5)) (.sq (.var 0)) b_w_put_2, .frz 3, .ret (.b1 .tuple (.b1 .sorted (.b1 .set (.var 3))))]
def c_w_put : Cf := ⟨[], []⟩
def m_w_put : List D → M D := run c_w_put ⟨N_w_put.length, b_w_put⟩ 3
theorem k_w_put : chkSs q_w_put b_w_put ⟨defScope st_w_put, none⟩ (defBody st_w_put) = true := by decide +kernel
theorem s_w_put : FnScope N_w_put ["_law_join_here", "_law_name", "_law_word"] (defScope st_w_put) := ⟨rfl, rfl, rfl, by decide +kernel, rfl, by decide +kernel, by decide +kernel⟩
theorem f_w_put {P : Program} {w : World} {K : PySem.W.Frag} {mg : Str → Option Value} {base : Heap} {f : Addr} {fd : FuncData} (D : FunD K "_law_put" "_law_put" (defArgs st_w_put) (defBody st_w_put) (defScope st_w_put) [] [] f fd)
    (hm : mg "_law_put" = some (.ref f)) (hb : ∀ y ∈ bNames, mg y = none) : Kn P w K mg base 1 "_law_put" 3 m_w_put :=
  def_K D hm s_w_put rfl rfl k_w_put hb .nil .nil (D.bindsN fun _ _ _ _ _ _ us hl => match us, hl with | [_, _, _], _ => rfl)
/-! _law_join -/
abbrev st_w_join : Stmt := top 10
def N_w_join : List Str := ["_law_tap_here", "_law_base_here", "_law_most", "_law_found", "_law_k", "_law_tables", "_law_width", "_law_terms", "_law_j", "_law_name", "_law_way", "_law_table_here"]
def q_w_join : Ck := ⟨N_w_join, [("_law_take", 2)], []⟩
def e_w_join_1 : E := .lc1 [11] (.nm 11) (.sq (.var 1)) .n (.tup (.c (.idx (.var 11) (.int 0)) (.c (.idx (.var 11) (.int 1)) .n)))
def b_w_join_2 : List S := [.set (.nm 10) (.call 0 (.c (.var 0) (.c (.int 5) .n))), .app 7 (.ife (.cmp .eq (.var 10) (.int 0)) (.tup (.c (.str "word") (.c (.idx (.lst (.c (.str "a") (.c (.str "b") (.c (.str "cc") (.c (.str "row") .n))))) (.call 0 (.c (.var 0) (.c (.int 4) .n)))) .n))) (.tup (.c (.str "any") (.c (.idx (.str "xyz") (.bin .mod (.var 10) (.int 3))) .n))))]
def b_w_join_3 : List S := [.set (.nm 5) (.bin .add e_w_join_1 (.bin .mul (.lst (.c (.tup (.c (.str "nought") (.c (.int 1) .n))) .n)) (.b1 .int (.or (.cmp .eq (.var 1) (.tup .n)) (.cmp .eq (.call 0 (.c (.var 0) (.c (.int 9) .n))) (.int 0)))))), .set (.tp2 (.nm 9) (.nm 6)) (.idx (.var 5) (.call 0 (.c (.var 0) (.c (.b1 .len (.var 5)) .n)))), .set (.nm 6) (.bin .add (.var 6) (.b1 .int (.cmp .eq (.call 0 (.c (.var 0) (.c (.int 16) .n))) (.int 0)))), .seto 7 (.lst .n), .frr (.nm 8) (.rg1 (.var 6)) b_w_join_2, .frz 7, .app 3 (.tup (.c (.var 9) (.c (.b1 .tuple (.var 7)) .n)))]
def b_w_join : List S := [.seto 3 (.lst .n), .frr (.nm 4) (.rg1 (.call 0 (.c (.var 0) (.c (.bin .add (.var 2) (.int 1)) .n)))) b_w_join_3, .frz 3, .ret (.b1 .tuple (.b1 .sorted (.b1 .set (.var 3))))]
def c_w_join : Cf := ⟨[], [m_w_take]⟩
def m_w_join : List D → M D := run c_w_join ⟨N_w_join.length, b_w_join⟩ 3
@[simp] theorem hf_w_join_0 : c_w_join.fn[0]? = some m_w_take := (rfl)
theorem k_w_join : chkSs q_w_join b_w_join ⟨defScope st_w_join, none⟩ (defBody st_w_join) = true := by decide +kernel
theorem s_w_join : FnScope N_w_join ["_law_tap_here", "_law_base_here", "_law_most"] (defScope st_w_join) := ⟨rfl, rfl, rfl, by decide +kernel, rfl, by decide +kernel, by decide +kernel⟩
theorem f_w_join {P : Program} {w : World} {K : PySem.W.Frag} {mg : Str → Option Value} {base : Heap} {f : Addr} {fd : FuncData} (D : FunD K "_law_join" "_law_join" (defArgs st_w_join) (defBody st_w_join) (defScope st_w_join) [] [] f fd)
    (hm : mg "_law_join" = some (.ref f)) (hb : ∀ y ∈ bNames, mg y = none) (e0 : Kn P w K mg base 1 "_law_take" 2 m_w_take) : Kn P w K mg base 2 "_law_join" 3 m_w_join :=
  def_K D hm s_w_join rfl rfl k_w_join hb (.cons (e0.mono (by decide)) .nil) .nil (D.bindsN fun _ _ _ _ _ _ us hl => match us, hl with | [_, _, _], _ => rfl)
/-! _law_come -/
abbrev st_w_come : Stmt := top 12
def N_w_come : List Str := ["_law_join_here", "_law_known", "_law_found", "_law_name", "_law_terms", "_law_term"]
def q_w_come : Ck := ⟨N_w_come, [], []⟩
def e_w_come_1 : E := .lc1 [5] (.nm 5) (.sq (.var 4)) .n (.ife (.cmp .eq (.idx (.var 5) (.int 0)) (.str "any")) (.idx (.var 1) (.idx (.var 5) (.int 1))) (.idx (.var 5) (.int 1)))
def b_w_come_2 : List S := [.app 2 (.tup (.c (.var 3) (.c (.b1 .tuple e_w_come_1) .n)))]
def b_w_come : List S := [.seto 2 (.lst .n), .frr (.tp2 (.nm 3) (.nm 4)) (.sq (.var 0)) b_w_come_2, .frz 2, .ret (.var 2)]
def c_w_come : Cf := ⟨[], []⟩
def m_w_come : List D → M D := run c_w_come ⟨N_w_come.length, b_w_come⟩ 2
theorem k_w_come : chkSs q_w_come b_w_come ⟨defScope st_w_come, none⟩ (defBody st_w_come) = true := by decide +kernel
theorem s_w_come : FnScope N_w_come ["_law_join_here", "_law_known"] (defScope st_w_come) := ⟨rfl, rfl, rfl, by decide +kernel, rfl, by decide +kernel, by decide +kernel⟩
theorem f_w_come {P : Program} {w : World} {K : PySem.W.Frag} {mg : Str → Option Value} {base : Heap} {f : Addr} {fd : FuncData} (D : FunD K "_law_come" "_law_come" (defArgs st_w_come) (defBody st_w_come) (defScope st_w_come) [] [] f fd)
    (hm : mg "_law_come" = some (.ref f)) (hb : ∀ y ∈ bNames, mg y = none) : Kn P w K mg base 1 "_law_come" 2 m_w_come :=
  def_K D hm s_w_come rfl rfl k_w_come hb .nil .nil (D.bindsN fun _ _ _ _ _ _ us hl => match us, hl with | [_, _], _ => rfl)
/-! law -/
abbrev st_law : Stmt := top 14
def N_law : List Str := ["_law_script", "_law_tap_here", "_law_base_here", "_law_k", "_law_question", "_law_names", "_law_word", "_law_kept", "_law_due", "_law_join_here", "_law_some", "_law_way", "_law_putting", "_law_name", "_law_j", "_law_both", "_law_alike"]
def q_law : Ck := ⟨N_law, [("_law_tap", 1), ("_law_base", 2), ("_law_take", 2), ("_law_join", 3), ("_law_put", 3), ("put_words", 3), ("_law_variables", 1), ("facts_by", 2), ("_law_come", 2)], []⟩
def e_law_1 : E := .lc1 [14] (.nm 14) (.rg1 (.call 2 (.c (.var 1) (.c (.int 5) .n)))) .n (.call 3 (.c (.var 1) (.c (.var 2) (.c (.int 3) .n))))
def e_law_2 : E := .lc1 [9] (.nm 9) (.sq (.var 4)) .n (.idx (.lst (.c (.str "x") (.c (.str "y") (.c (.str "z") (.c (.str "q") .n))))) (.call 2 (.c (.var 1) (.c (.int 4) .n))))
def e_law_3 : E := .lc1 [9, 13] (.tp2 (.nm 9) (.nm 13)) (.zip false (.var 4) (.var 5)) .n (.call 4 (.c (.var 9) (.c (.var 13) (.c (.var 6) .n))))
def e_law_4 : E := .lc1 [13] (.nm 13) (.sq (.var 10)) .n (.tup (.c (.var 13) (.c (.idx (.lst (.c (.str "a") (.c (.str "b") (.c (.str "cc") .n)))) (.call 2 (.c (.var 1) (.c (.int 3) .n)))) .n)))
def b_law_5 : List S := [.set (.nm 10) (.bin .add (.call 6 (.c (.var 9) .n)) (.sli (.lst (.c (.str "q") (.c (.str "w") .n))) .n (.s (.call 2 (.c (.var 1) (.c (.int 3) .n)))))), .set (.nm 11) (.b1 .dict e_law_4), .set (.nm 12) (.b1 .tuple (.b1 .sorted (.m0 .items (.var 11)))), .ife (.cmp .ne (.b1 .repr (.call 7 (.c (.var 9) (.c (.var 12) .n)))) (.b1 .repr (.b1 .tuple (.b1 .sorted (.b1 .set (.call 8 (.c (.var 9) (.c (.var 11) .n)))))))) [.ret (.bl false)] []]
def b_law_6 : List S := [.set (.nm 4) (.b1 .tuple (.b1 .sorted (.b1 .set e_law_1))), .set (.nm 5) (.b1 .tuple e_law_2), .set (.nm 6) (.idx (.lst (.c (.str "a") (.c (.str "b") (.c (.str "zzzzzzzz") .n)))) (.call 2 (.c (.var 1) (.c (.int 3) .n)))), .set (.nm 7) (.b1 .repr (.tup (.c (.var 4) (.c (.var 5) .n)))), .set (.nm 8) (.b1 .sorted (.b1 .set e_law_3)), .ife (.cmp .ne (.b1 .repr (.call 5 (.c (.var 4) (.c (.var 5) (.c (.var 6) .n))))) (.b1 .repr (.b1 .tuple (.var 8)))) [.ret (.bl false)] [], .frr (.nm 9) (.sq (.var 4)) b_law_5, .ife (.cmp .ne (.b1 .repr (.tup (.c (.var 4) (.c (.var 5) .n)))) (.var 7)) [.ret (.bl false)] []]
def b_law : List S := [.set (.nm 1) (.call 0 (.c (.var 0) .n)), .set (.nm 2) (.call 1 (.c (.var 1) (.c (.int 8) .n))), .frr (.nm 3) (.rg1 (.int 6)) b_law_6, .set (.nm 15) (.tup (.c (.tup (.c (.str "a") (.c (.tup (.c (.tup (.c (.str "any") (.c (.str "a") .n))) (.c (.tup (.c (.str "word") (.c (.str "a") .n))) .n))) .n))) .n)), .ife (.cmp .ne (.b1 .repr (.call 5 (.c (.tup (.c (.var 15) .n)) (.c (.tup (.c (.str "a") .n)) (.c (.str "b") .n))))) (.b1 .repr (.tup (.c (.tup (.c (.tup (.c (.str "a") (.c (.tup (.c (.tup (.c (.str "word") (.c (.str "b") .n))) (.c (.tup (.c (.str "word") (.c (.str "a") .n))) .n))) .n))) .n)) .n)))) [.ret (.bl false)] [], .ife (.cmp .ne (.b1 .repr (.call 7 (.c (.var 15) (.c (.tup (.c (.tup (.c (.str "a") (.c (.str "b") .n))) .n)) .n)))) (.b1 .repr (.tup (.c (.tup (.c (.str "a") (.c (.tup (.c (.str "b") (.c (.str "a") .n))) .n))) .n)))) [.ret (.bl false)] [], .set (.nm 16) (.tup (.c (.tup (.c (.tup (.c (.str "a") (.c (.tup (.c (.tup (.c (.str "any") (.c (.str "x") .n))) .n)) .n))) .n)) (.c (.tup (.c (.tup (.c (.str "a") (.c (.tup (.c (.tup (.c (.str "any") (.c (.str "y") .n))) .n)) .n))) .n)) .n))), .ret (.cmp .eq (.b1 .repr (.call 5 (.c (.var 16) (.c (.tup (.c (.str "x") (.c (.str "y") .n))) (.c (.str "b") .n))))) (.b1 .repr (.tup (.c (.tup (.c (.tup (.c (.str "a") (.c (.tup (.c (.tup (.c (.str "word") (.c (.str "b") .n))) .n)) .n))) .n)) .n))))]
def c_law : Cf := ⟨[], [m_w_tap, m_w_base, m_w_take, m_w_join, m_w_put, m_put_words, m_w_variables, m_facts_by, m_w_come]⟩
def m_law : List D → M D := run c_law ⟨N_law.length, b_law⟩ 1
@[simp] theorem hf_law_0 : c_law.fn[0]? = some m_w_tap := (rfl)
@[simp] theorem hf_law_1 : c_law.fn[1]? = some m_w_base := (rfl)
@[simp] theorem hf_law_2 : c_law.fn[2]? = some m_w_take := (rfl)
@[simp] theorem hf_law_3 : c_law.fn[3]? = some m_w_join := (rfl)
@[simp] theorem hf_law_4 : c_law.fn[4]? = some m_w_put := (rfl)
@[simp] theorem hf_law_5 : c_law.fn[5]? = some m_put_words := (rfl)
@[simp] theorem hf_law_6 : c_law.fn[6]? = some m_w_variables := (rfl)
@[simp] theorem hf_law_7 : c_law.fn[7]? = some m_facts_by := (rfl)
@[simp] theorem hf_law_8 : c_law.fn[8]? = some m_w_come := (rfl)
theorem k_law : chkSs q_law b_law ⟨defScope st_law, none⟩ (defBody st_law) = true := by decide +kernel
theorem s_law : FnScope N_law ["_law_script"] (defScope st_law) := ⟨rfl, rfl, rfl, by decide +kernel, rfl, by decide +kernel, by decide +kernel⟩
theorem f_law {P : Program} {w : World} {K : PySem.W.Frag} {mg : Str → Option Value} {base : Heap} {f : Addr} {fd : FuncData} (D : FunD K "law" "law" (defArgs st_law) (defBody st_law) (defScope st_law) [] [] f fd)
    (hm : mg "law" = some (.ref f)) (hb : ∀ y ∈ bNames, mg y = none) (e0 : Kn P w K mg base 1 "_law_tap" 1 m_w_tap) (e1 : Kn P w K mg base 3 "_law_base" 2 m_w_base) (e2 : Kn P w K mg base 1 "_law_take" 2 m_w_take) (e3 : Kn P w K mg base 2 "_law_join" 3 m_w_join) (e4 : Kn P w K mg base 1 "_law_put" 3 m_w_put) (e5 : Kn P w K mg base 2 "put_words" 3 m_put_words) (e6 : Kn P w K mg base 1 "_law_variables" 1 m_w_variables) (e7 : Kn P w K mg base 2 "facts_by" 2 m_facts_by) (e8 : Kn P w K mg base 1 "_law_come" 2 m_w_come) : Kn P w K mg base 4 "law" 1 m_law :=
  def_K D hm s_law rfl rfl k_law hb (.cons (e0.mono (by decide)) (.cons (e1.mono (by decide)) (.cons (e2.mono (by decide)) (.cons (e3.mono (by decide)) (.cons (e4.mono (by decide)) (.cons (e5.mono (by decide)) (.cons (e6.mono (by decide)) (.cons (e7.mono (by decide)) (.cons (e8.mono (by decide)) .nil))))))))) .nil (D.bindsN fun _ _ _ _ _ _ us hl => match us, hl with | [_], _ => rfl)
/-! the head -/
def d_w_tap : He.DefD := ⟨("_law_tap", none), "_law_tap", "_law_tap", defArgs st_w_tap, defBody st_w_tap, defScope st_w_tap, [], []⟩
def d_w_take : He.DefD := ⟨("_law_take", none), "_law_take", "_law_take", defArgs st_w_take, defBody st_w_take, defScope st_w_take, [], []⟩
def d_w_lowest : He.DefD := ⟨("_law_lowest", none), "_law_lowest", "_law_lowest", defArgs st_w_lowest, defBody st_w_lowest, defScope st_w_lowest, [], []⟩
def d_w_table : He.DefD := ⟨("_law_table", none), "_law_table", "_law_table", defArgs st_w_table, defBody st_w_table, defScope st_w_table, [], []⟩
def d_w_base : He.DefD := ⟨("_law_base", none), "_law_base", "_law_base", defArgs st_w_base, defBody st_w_base, defScope st_w_base, [], []⟩
def d_put_in : He.DefD := ⟨("put_in", none), "put_in", "put_in", defArgs st_put_in, defBody st_put_in, defScope st_put_in, [], []⟩
def d_put_words : He.DefD := ⟨("put_words", none), "put_words", "put_words", defArgs st_put_words, defBody st_put_words, defScope st_put_words, [], []⟩
def d_facts_by : He.DefD := ⟨("facts_by", none), "facts_by", "facts_by", defArgs st_facts_by, defBody st_facts_by, defScope st_facts_by, [], []⟩
def d_w_variables : He.DefD := ⟨("_law_variables", none), "_law_variables", "_law_variables", defArgs st_w_variables, defBody st_w_variables, defScope st_w_variables, [], []⟩
def d_w_put : He.DefD := ⟨("_law_put", none), "_law_put", "_law_put", defArgs st_w_put, defBody st_w_put, defScope st_w_put, [], []⟩
def d_w_join : He.DefD := ⟨("_law_join", none), "_law_join", "_law_join", defArgs st_w_join, defBody st_w_join, defScope st_w_join, [], []⟩
def d_w_come : He.DefD := ⟨("_law_come", none), "_law_come", "_law_come", defArgs st_w_come, defBody st_w_come, defScope st_w_come, [], []⟩
def d_law : He.DefD := ⟨("law", none), "law", "law", defArgs st_law, defBody st_law, defScope st_law, [], []⟩
def fn : List He.DefD := [d_w_tap, d_w_take, d_w_lowest, d_w_table, d_w_base, d_put_in, d_put_words, d_facts_by, d_w_variables, d_w_put, d_w_join, d_w_come, d_law]
def fa : List He.Fa := bNames.map He.Fa.free ++ [.glo "_law_tap", .glo "_law_take", .glo "_law_lowest", .glo "_law_table", .glo "_law_base", .glo "put_in", .glo "put_words", .glo "facts_by", .glo "_law_variables", .glo "_law_put", .glo "_law_join", .glo "_law_come", .glo "law"]
def cs : List (Str × D) := []
abbrev R : PySem.W.OpenRow := PySem.W.OpenLaw.row PySem.Challenge.rw_liftedworlds_k13_put
abbrev hk : PySem.W.Hook := hookC 4 fa fn cs
def ob (s : PySem.W.SharedT) : AlC := obsCG 4 fa fn cs (HandSHeadRun.getT s)
theorem ob_eq (s : PySem.W.SharedT) : ob s = hk.obs s.abs := obsCG_eq (HandSHeadRun.getT_eq s)
def loose : List PySem.Str := (["put_in", "facts_by", "put_words", "_law_tap", "_law_take", "_law_lowest", "_law_table", "_law_base", "_law_join", "_law_variables", "_law_come", "_law_put"] : List PySem.Str)
theorem run0 (w : World) : HandSHeadRun.RunEq R (PySem.W.view R.prog [14]) hk ob 2000 loose w := by
  intro os
  kernel_rfl
theorem facts {P : Program} {w : World} {K : PySem.W.Frag} {h : Heap} {mg : Str → Option Value} {f : Addr} (X : K.In h) (G : h.Ns mainGlobals mg) (hfa : mg ("law" : Str) = some (.ref f)) (c : SaysC fa fn cs K) :
    ∃ fd : FuncData, (∀ (s : Shared) (v : Value), BindsTo s fd ⟨[v], []⟩ [("_law_script", v)]) ∧ ∀ base : Heap, K.In base → base.Ns mainGlobals mg → FnC P w K mg base 4 f fd ["_law_script"] m_law := by
  have hb : ∀ y ∈ bNames, mg y = none := free_all X G c
  obtain ⟨fd0, D0⟩ := c.d.def_ 0 (d := d_w_tap) rfl
  have y_w_tap : ∀ base : Heap, Kn P w K mg base 1 "_law_tap" 1 m_w_tap := fun base => f_w_tap D0 (He.glo_ok X G (c.d.fact 21 (f := .glo "_law_tap") rfl)) hb
  obtain ⟨fd1, D1⟩ := c.d.def_ 1 (d := d_w_take) rfl
  have y_w_take : ∀ base : Heap, Kn P w K mg base 1 "_law_take" 2 m_w_take := fun base => f_w_take D1 (He.glo_ok X G (c.d.fact 22 (f := .glo "_law_take") rfl)) hb
  obtain ⟨fd2, D2⟩ := c.d.def_ 2 (d := d_w_lowest) rfl
  have y_w_lowest : ∀ base : Heap, Kn P w K mg base 1 "_law_lowest" 2 m_w_lowest := fun base => f_w_lowest D2 (He.glo_ok X G (c.d.fact 23 (f := .glo "_law_lowest") rfl)) hb
  obtain ⟨fd3, D3⟩ := c.d.def_ 3 (d := d_w_table) rfl
  have y_w_table : ∀ base : Heap, Kn P w K mg base 2 "_law_table" 4 m_w_table := fun base => f_w_table D3 (He.glo_ok X G (c.d.fact 24 (f := .glo "_law_table") rfl)) hb (y_w_take base) (y_w_lowest base)
  obtain ⟨fd4, D4⟩ := c.d.def_ 4 (d := d_w_base) rfl
  have y_w_base : ∀ base : Heap, Kn P w K mg base 3 "_law_base" 2 m_w_base := fun base => f_w_base D4 (He.glo_ok X G (c.d.fact 25 (f := .glo "_law_base") rfl)) hb (y_w_take base) (y_w_table base)
  obtain ⟨fd5, D5⟩ := c.d.def_ 5 (d := d_put_in) rfl
  have y_put_in : ∀ base : Heap, Kn P w K mg base 1 "put_in" 2 m_put_in := fun base => f_put_in D5 (He.glo_ok X G (c.d.fact 26 (f := .glo "put_in") rfl)) hb
  obtain ⟨fd6, D6⟩ := c.d.def_ 6 (d := d_put_words) rfl
  have y_put_words : ∀ base : Heap, Kn P w K mg base 2 "put_words" 3 m_put_words := fun base => f_put_words D6 (He.glo_ok X G (c.d.fact 27 (f := .glo "put_words") rfl)) hb (y_put_in base)
  obtain ⟨fd7, D7⟩ := c.d.def_ 7 (d := d_facts_by) rfl
  have y_facts_by : ∀ base : Heap, Kn P w K mg base 2 "facts_by" 2 m_facts_by := fun base => f_facts_by D7 (He.glo_ok X G (c.d.fact 28 (f := .glo "facts_by") rfl)) hb (y_put_in base)
  obtain ⟨fd8, D8⟩ := c.d.def_ 8 (d := d_w_variables) rfl
  have y_w_variables : ∀ base : Heap, Kn P w K mg base 1 "_law_variables" 1 m_w_variables := fun base => f_w_variables D8 (He.glo_ok X G (c.d.fact 29 (f := .glo "_law_variables") rfl)) hb
  obtain ⟨fd9, D9⟩ := c.d.def_ 9 (d := d_w_put) rfl
  have y_w_put : ∀ base : Heap, Kn P w K mg base 1 "_law_put" 3 m_w_put := fun base => f_w_put D9 (He.glo_ok X G (c.d.fact 30 (f := .glo "_law_put") rfl)) hb
  obtain ⟨fd10, D10⟩ := c.d.def_ 10 (d := d_w_join) rfl
  have y_w_join : ∀ base : Heap, Kn P w K mg base 2 "_law_join" 3 m_w_join := fun base => f_w_join D10 (He.glo_ok X G (c.d.fact 31 (f := .glo "_law_join") rfl)) hb (y_w_take base)
  obtain ⟨fd11, D11⟩ := c.d.def_ 11 (d := d_w_come) rfl
  have y_w_come : ∀ base : Heap, Kn P w K mg base 1 "_law_come" 2 m_w_come := fun base => f_w_come D11 (He.glo_ok X G (c.d.fact 32 (f := .glo "_law_come") rfl)) hb
  obtain ⟨fd, D⟩ := c.d.def_ 12 (d := d_law) rfl
  have e := hfa.symm.trans (He.glo_ok X G (c.d.fact 33 (f := .glo "law") rfl))
  cases e
  refine ⟨fd, fun s v => (FunD.bindsA (ps := ["_law_script"]) D fun _ _ _ _ _ _ us hl => match us, hl with | [_], _ => rfl) s [v] rfl, fun base _ _ => ?_⟩
  exact def_C D s_law rfl k_law hb (.cons ((y_w_tap base).mono (by decide)) (.cons ((y_w_base base).mono (by decide)) (.cons ((y_w_take base).mono (by decide)) (.cons ((y_w_join base).mono (by decide)) (.cons ((y_w_put base).mono (by decide)) (.cons ((y_put_words base).mono (by decide)) (.cons ((y_w_variables base).mono (by decide)) (.cons ((y_facts_by base).mono (by decide)) (.cons ((y_w_come base).mono (by decide)) .nil))))))))) .nil
end liftedworlds_k13_put

/-! Fa1: what the laws k02 to k17 make: tables, bases, joins. -/
namespace Cv
open PySem PySem.Spec PyProof.Rows L2
def N_w_table : List Str := ["_law_tap_here", "_law_name", "_law_words", "_law_most", "_law_width", "_law_key", "_law_under", "_law_rows", "_law_full", "_law_k", "_law_row", "_law_over", "_law_j"]
def e_w_table_1 : E := .lc1 [12] (.nm 12) (.rg1 (.var 4)) .n (.idx (.var 2) (.call 0 (.c (.var 0) (.c (.b1 .len (.var 2)) .n))))
def b_w_table_2 : List S := [.set (.nm 10) (.b1 .tuple e_w_table_1), .set (.nm 11) (.bin .add (.int 1) (.call 0 (.c (.var 0) (.c (.var 6) .n)))), .set (.nm 11) (.prim pMin2 (.c (.var 11) (.c (.bin .sub (.var 6) (.prim pGet (.c (.rd 8) (.c (.sli (.var 10) .n (.s (.var 5))) (.c (.int 0) .n))))) .n))), .ife (.and (.cmp .notin (.var 10) (.rd 7)) (.cmp .gt (.var 11) (.int 0))) [.put 7 (.var 10) (.call 1 (.c (.var 11) (.c (.var 6) .n))), .put 8 (.sli (.var 10) .n (.s (.var 5))) (.bin .add (.prim pGet (.c (.rd 8) (.c (.sli (.var 10) .n (.s (.var 5))) (.c (.int 0) .n)))) (.var 11))] []]
def b_w_table : List S := [.set (.nm 4) (.bin .add (.int 1) (.call 0 (.c (.var 0) (.c (.int 3) .n)))), .set (.nm 5) (.idx (.lst (.c (.var 4) (.c (.var 4) (.c (.call 0 (.c (.var 0) (.c (.bin .add (.var 4) (.int 1)) .n))) .n)))) (.call 0 (.c (.var 0) (.c (.int 3) .n)))), .set (.nm 6) (.idx (.lst (.c (.int 2) (.c (.int 1) (.c (.int 3) (.c (.int 4) (.c (.int 8) .n)))))) (.call 0 (.c (.var 0) (.c (.int 5) .n)))), .prim (pNewD2 7 8) .n, .frr (.nm 9) (.rg1 (.var 3)) b_w_table_2, .frz 7, .ret (.tup (.c (.var 1) (.c (.var 4) (.c (.var 5) (.c (.b1 .tuple (.b1 .sorted (.m0 .items (.var 7)))) .n)))))]
def c_w_table : Cf := ⟨[], [tk_m, lo_m]⟩
def m_w_table : List D → M D := run c_w_table ⟨N_w_table.length, b_w_table⟩ 4
def N_w_base : List Str := ["_law_tap_here", "_law_most", "_law_pool", "_law_words", "_law_found", "_law_left", "_law_name", "_law_table_here"]
def b_w_base_1 : List S := [.ife (.and (.cmp .gt (.call 0 (.c (.var 0) (.c (.int 4) .n))) (.int 0)) (.cmp .lt (.b1 .len (.rd 4)) (.int 4))) [.set (.nm 7) (.call 1 (.c (.var 0) (.c (.var 6) (.c (.var 3) (.c (.ife (.cmp .gt (.var 5) (.int 0)) (.idx (.lst (.c (.var 5) (.c (.call 0 (.c (.var 0) (.c (.bin .add (.var 5) (.int 1)) .n))) .n))) (.call 0 (.c (.var 0) (.c (.int 2) .n)))) (.int 0)) .n))))), .set (.nm 5) (.bin .sub (.var 5) (.b1 .len (.idx (.var 7) (.int 3)))), .app 4 (.var 7)] []]
def b_w_base : List S := [.par 2 3 (.lst (.c (.str "a") (.c (.str "at") (.c (.str "link") (.c (.str "row") (.c (.str "zzzzzzzz") .n)))))) (.sli (.lst (.c (.str "a") (.c (.str "b") (.c (.str "cc") (.c (.str "row") .n))))) .n (.s (.bin .add (.int 2) (.call 0 (.c (.var 0) (.c (.int 3) .n)))))), .paro 4 5 true false (.lst .n) (.var 1), .frr (.nm 6) (.sq (.sli (.var 2) (.s (.call 0 (.c (.var 0) (.c (.int 3) .n)))) .n)) b_w_base_1, .frz 4, .ret (.b1 .tuple (.var 4))]
def c_w_base : Cf := ⟨[], [tk_m, m_w_table]⟩
def m_w_base : List D → M D := run c_w_base ⟨N_w_base.length, b_w_base⟩ 2
def N_w_join : List Str := ["_law_tap_here", "_law_base_here", "_law_most", "_law_found", "_law_k", "_law_tables", "_law_width", "_law_terms", "_law_j", "_law_name", "_law_way", "_law_table_here"]
def e_w_join_1 : E := .lc1 [11] (.nm 11) (.sq (.var 1)) .n (.tup (.c (.idx (.var 11) (.int 0)) (.c (.idx (.var 11) (.int 1)) .n)))
def b_w_join_2 : List S := [.set (.nm 10) (.call 0 (.c (.var 0) (.c (.int 5) .n))), .app 7 (.ife (.cmp .eq (.var 10) (.int 0)) (.tup (.c (.str "word") (.c (.idx (.lst (.c (.str "a") (.c (.str "b") (.c (.str "cc") (.c (.str "row") .n))))) (.call 0 (.c (.var 0) (.c (.int 4) .n)))) .n))) (.tup (.c (.str "any") (.c (.idx (.str "xyz") (.bin .mod (.var 10) (.int 3))) .n))))]
def b_w_join_3 : List S := [.set (.nm 5) (.bin .add e_w_join_1 (.bin .mul (.lst (.c (.tup (.c (.str "nought") (.c (.int 1) .n))) .n)) (.b1 .int (.or (.cmp .eq (.var 1) (.tup .n)) (.cmp .eq (.call 0 (.c (.var 0) (.c (.int 9) .n))) (.int 0)))))), .set (.tp2 (.nm 9) (.nm 6)) (.idx (.var 5) (.call 0 (.c (.var 0) (.c (.b1 .len (.var 5)) .n)))), .set (.nm 6) (.bin .add (.var 6) (.b1 .int (.cmp .eq (.call 0 (.c (.var 0) (.c (.int 16) .n))) (.int 0)))), .seto 7 (.lst .n), .frr (.nm 8) (.rg1 (.var 6)) b_w_join_2, .frz 7, .app 3 (.tup (.c (.var 9) (.c (.b1 .tuple (.var 7)) .n)))]
def b_w_join : List S := [.seto 3 (.lst .n), .frr (.nm 4) (.rg1 (.call 0 (.c (.var 0) (.c (.bin .add (.var 2) (.int 1)) .n)))) b_w_join_3, .frz 3, .ret (.b1 .tuple (.b1 .sorted (.b1 .set (.var 3))))]
def c_w_join : Cf := ⟨[], [tk_m]⟩
def m_w_join : List D → M D := run c_w_join ⟨N_w_join.length, b_w_join⟩ 3
structure Row where
  ws : List Str
  c : Int × Int
def wsD (ws : List Str) : D := .tup (ws.map .str)
def Row.d (r : Row) : D := .tup [wsD r.ws, fr r.c]
structure Tb where
  nm : Str
  w : Nat
  key : Nat
  rows : List Row
def Tb.d (t : Tb) : D := .tup [.str t.nm, .int t.w, .int t.key, .tup (t.rows.map Row.d)]
/-- a word of the few -/
def W4 (s : Str) : Prop := (s.cps.toList.all fun c => decide (c < 128)) = true ∧ s.cps.size ≤ 8
structure RowOk (w : Nat) (ws : List Str) (r : Row) : Prop where
  len : r.ws.length = w
  mem : ∀ x ∈ r.ws, x ∈ ws
  pos : 0 < r.c.1
  le : r.c.1 ≤ r.c.2
  sm : r.c.2 ≤ 8
theorem ww_ty {w : Nat} {ws us : List Str} (hs : ∀ x ∈ ws, W4 x) (hu : ∀ x ∈ us, x ∈ ws) (hl : us.length ≤ w) : D.ty (wsD us) (.t (.l w (.s 8))) = true :=
  rw_lM (fun x hx => Bool.and_eq_true_iff.mpr ⟨(hs x (hu x hx)).1, decide_eq_true (hs x (hu x hx)).2⟩) hl
theorem lk_ints {α : Type} {f : α → D} {k : α → Int} {x : D} : ∀ {fs : List α}, (∀ p ∈ fs, 0 ≤ k p) → ∃ v : Int, 0 ≤ v ∧ (lkD (fs.map f) (fs.map fun p => .int (k p)) x).getD (.int 0) = .int v
  | [], _ => ⟨0, by decide, rfl⟩
  | p :: fs, h => by
    show ∃ v : Int, 0 ≤ v ∧ (if nkD (f p) = nkD x then some (D.int (k p)) else lkD (fs.map f) (fs.map fun p => .int (k p)) x).getD (.int 0) = .int v
    by_cases c : nkD (f p) = nkD x
    · rw [if_pos c]
      exact ⟨k p, h p List.mem_cons_self, rfl⟩
    · rw [if_neg c]
      exact lk_ints fun q hq => h q (List.mem_cons_of_mem _ hq)
/-- a table's loop -/
def taE (nm : Str) (ws : List Str) (most w key : Nat) (under : Int) (rs : List Row) (fs : List (List Str × Int)) (x9 x10 x11 x12 : Sl) : En := [.val (.obj 0), .val (.str nm), .val (.lst (ws.map .str)), .val (.int most), .val (.int (1 + (w : Int))), .val (.int key), .val (.int under),
    .own (.od (rs.map fun r => wsD r.ws) (rs.map fun r => fr r.c)), .own (.od (fs.map fun p => wsD p.1) (fs.map fun p => .int p.2)), x9, x10, x11, x12]
structure TaR (ws : List Str) (w : Nat) (j : Nat) (rs : List Row) (fs : List (List Str × Int)) : Prop where
  l1 : rs.length ≤ j
  l2 : fs.length ≤ j
  r : ∀ r ∈ rs, RowOk (w + 1) ws r
  f : ∀ p ∈ fs, (∀ x ∈ p.1, x ∈ ws) ∧ p.1.length ≤ w + 1 ∧ 0 ≤ p.2
def TaI (nm : Str) (ws : List Str) (most w key : Nat) (under : Int) (j : Nat) (en : En) : Prop := ∃ rs fs x9 x10 x11 x12, en = taE nm ws most w key under rs fs x9 x10 x11 x12 ∧ TaR ws w j rs fs
theorem lw_fr {x y : Int} (hx : 0 < x) (h : x ≤ y) : 0 < (lw x y).1 ∧ (lw x y).1 ≤ (lw x y).2 ∧ (lw x y).2 ≤ y := by
  have hg := gcd_pos (x := x) (y := y) (by omega)
  have e : ∀ a : Int, a.fdiv ((Nat.gcd x.natAbs y.natAbs : Nat) : Int) = a / ((Nat.gcd x.natAbs y.natAbs : Nat) : Int) := fun a => Int.fdiv_eq_ediv_of_nonneg _ (by omega)
  have d1 : ((Nat.gcd x.natAbs y.natAbs : Nat) : Int) ∣ x := Int.ofNat_dvd_left.mpr (Nat.gcd_dvd_left _ _)
  unfold lw
  simp only [e]
  refine ⟨?_, Int.ediv_le_ediv (by omega) h, ?_⟩
  · exact Int.ediv_pos_of_pos_of_dvd hx (by omega) d1
  · exact Int.ediv_le_self _ (by omega)
structure TbOk (ws : List Str) (most : Nat) (t : Tb) : Prop where
  w1 : 1 ≤ t.w
  w3 : t.w ≤ 3
  key : t.key ≤ t.w
  len : t.rows.length ≤ most
  rows : ∀ r ∈ t.rows, RowOk t.w ws r
  srt : ∃ rs : List Row, t.rows = rs.mergeSort fun a b => leD a.d b.d
theorem row_ty {w : Nat} {ws : List Str} {r : Row} (hs : ∀ x ∈ ws, W4 x) (hw : w ≤ 3) (h : RowOk w ws r) : D.ty r.d (.t (.c (.t (.l 3 (.s 8))) (.c (.t (.c (.i 8) (.c (.i 8) .n))) .n))) = true := by
  have h1 := ww_ty hs h.mem (Nat.le_trans (Nat.le_of_eq h.len) hw)
  have h2 := h.pos
  have h3 := h.le
  have h4 := h.sm
  have e1 : decide (r.c.1.natAbs ≤ 8) = true := decide_eq_true (by omega)
  have e2 : decide (r.c.2.natAbs ≤ 8) = true := decide_eq_true (by omega)
  show (D.ty (wsD r.ws) _ && ((decide (r.c.1.natAbs ≤ 8) && (decide (r.c.2.natAbs ≤ 8) && true)) && true)) = true
  rw [h1, e1, e2]
  rfl
theorem r_table (nm : Str) (ws : List Str) (most : Nat) (hw : 2 ≤ ws.length ∧ ws.length ≤ 4) (hs : ∀ x ∈ ws, W4 x) (hm : most ≤ 14) : Dr 60 (m_w_table [.obj 0, .str nm, .lst (ws.map .str), .int most]) fun d => ∃ t : Tb, d = t.d ∧ t.nm = nm ∧ TbOk ws most t := by
  have e0 : c_w_table.fn[0]? = some tk_m := rfl
  have e1 : c_w_table.fn[1]? = some lo_m := rfl
  simp (config := { maxSteps := 400000 }) [z_rb, z_bb, z_br, z_os, z_on, z_nb, z_I, z_B, z_O, z_L, z_ib, z_oi, z_lcD, z_lcM, z_lcF, z_lcA, z_lcI, z_catD, z_catM, z_catA, z_catF, -List.map_take, -List.map_drop, -List.length_flatMap, line1, Cv.run, sts, st, ev, evt, evc, evs, evo, evi, startE, asgC, asg2C, asg3C, asg4C, z_ft, setV, slL, Function.comp_def, wipeE, seqD, s_get, s_min, s_max, s_join, s_index, s_disp1, s_new, s_new2, s_bin2, m_w_table, N_w_table, b_w_table, e0]
  refine Dr.take ?_ ?_ ?_ fun w0 hw0 hw1 => ?_
  any_goals decide
  obtain ⟨w, rfl⟩ : ∃ w : Nat, w0 = w := ⟨w0.toNat, by omega⟩
  simp (config := { maxSteps := 400000 }) [z_rb, z_bb, z_br, z_os, z_on, z_nb, z_I, z_B, z_O, z_L, z_ib, z_oi, z_lcD, z_lcM, z_lcF, z_lcA, z_lcI, z_catD, z_catM, z_catA, z_catF, -List.map_take, -List.map_drop, -List.length_flatMap, line1, Cv.run, sts, st, ev, evt, evc, evs, evo, evi, startE, asgC, asg2C, asg3C, asg4C, z_ft, setV, slL, Function.comp_def, wipeE, seqD, s_get, s_min, s_max, s_join, s_index, s_disp1, s_new, s_new2, s_bin2]
  refine Dr.take ?_ ?_ ?_ fun key0 hk0 hk1 => ?_
  any_goals omega
  simp (config := { maxSteps := 400000 }) [z_rb, z_bb, z_br, z_os, z_on, z_nb, z_I, z_B, z_O, z_L, z_ib, z_oi, z_lcD, z_lcM, z_lcF, z_lcA, z_lcI, z_catD, z_catM, z_catA, z_catF, -List.map_take, -List.map_drop, -List.length_flatMap, line1, Cv.run, sts, st, ev, evt, evc, evs, evo, evi, startE, asgC, asg2C, asg3C, asg4C, z_ft, setV, slL, Function.comp_def, wipeE, seqD, s_get, s_min, s_max, s_join, s_index, s_disp1, s_new, s_new2, s_bin2]
  refine Dr.take ?_ ?_ ?_ fun p hp0 hp1 => ?_
  any_goals omega
  obtain ⟨kd, hk, ek⟩ := ix_in (xs := [.int (1 + (w : Int)), .int (1 + (w : Int)), .int key0]) hp0 hp1
  obtain ⟨key, rfl, hkw⟩ : ∃ key : Nat, kd = .int (key : Int) ∧ key ≤ w + 1 := by
    simp only [List.mem_cons, List.not_mem_nil, or_false] at hk
    rcases hk with rfl | rfl | rfl
    · exact ⟨w + 1, by congr 1; omega, by omega⟩
    · exact ⟨w + 1, by congr 1; omega, by omega⟩
    · exact ⟨key0.toNat, by congr 1; omega, by omega⟩
  simp (config := { maxSteps := 400000 }) [z_rb, z_bb, z_br, z_os, z_on, z_nb, z_I, z_B, z_O, z_L, z_ib, z_oi, z_lcD, z_lcM, z_lcF, z_lcA, z_lcI, z_catD, z_catM, z_catA, z_catF, -List.map_take, -List.map_drop, -List.length_flatMap, line1, Cv.run, sts, st, ev, evt, evc, evs, evo, evi, startE, asgC, asg2C, asg3C, asg4C, z_ft, setV, slL, Function.comp_def, wipeE, seqD, s_get, s_min, s_max, s_join, s_index, s_disp1, s_new, s_new2, s_bin2, ek]
  refine Dr.take ?_ ?_ ?_ fun u0 hu0 hu1 => ?_
  any_goals omega
  obtain ⟨ud, hu, eu⟩ := ix_in (xs := [.int 2, .int 1, .int 3, .int 4, .int 8]) hu0 hu1
  obtain ⟨under, rfl, hu2, hu3⟩ : ∃ u : Int, ud = .int u ∧ 1 ≤ u ∧ u ≤ 8 := by
    simp only [List.mem_cons, List.not_mem_nil, or_false] at hu
    rcases hu with rfl | rfl | rfl | rfl | rfl <;> exact ⟨_, rfl, by decide, by decide⟩
  have hrg : rgOk (most : Int) = true := by
    unfold rgOk
    rw [Bool.and_eq_true, decide_eq_true_eq, decide_eq_true_eq]
    omega
  simp (config := { maxSteps := 400000 }) [z_rb, z_bb, z_br, z_os, z_on, z_nb, z_I, z_B, z_O, z_L, z_ib, z_oi, z_lcD, z_lcM, z_lcF, z_lcA, z_lcI, z_catD, z_catM, z_catA, z_catF, -List.map_take, -List.map_drop, -List.length_flatMap, line1, Cv.run, sts, st, ev, evt, evc, evs, evo, evi, startE, asgC, asg2C, asg3C, asg4C, z_ft, setV, slL, Function.comp_def, wipeE, seqD, s_get, s_min, s_max, s_join, s_index, s_disp1, s_new, s_new2, s_bin2, eu, newDic2, hrg]
  have er : rangeD 0 (most : Int) = (List.range most).map fun (k : Nat) => D.int (0 + (k : Int)) := by
    unfold rangeD
    simp
  rw [er]
  refine Dr.part (Dr.frr (k := 4) (TaI nm ws most w key under) (by decide) (List.range most) ⟨[], [], .no, .no, .no, .no, rfl, by simp, by simp, by simp, by simp⟩ ?_) ?_ ?_
  · rintro j x en hx ⟨rs, fs, x9, x10, x11, x12, rfl, hl1, hl2, hr, hf⟩
    have hj := get_lt hx
    rw [taE]
    have hrw : rgOk (1 + (w : Int)) = true := by
      unfold rgOk
      rw [Bool.and_eq_true, decide_eq_true_eq, decide_eq_true_eq]
      omega
    have erw : rangeD 0 (1 + (w : Int)) = (List.range (w + 1)).map fun (k : Nat) => D.int (0 + (k : Int)) := by
      unfold rangeD
      have : (1 + (w : Int) - 0).toNat = w + 1 := by omega
      rw [this]
    simp (config := { maxSteps := 400000 }) [z_rb, z_bb, z_br, z_os, z_on, z_nb, z_I, z_B, z_O, z_L, z_ib, z_oi, z_lcD, z_lcM, z_lcF, z_lcA, z_lcI, z_catD, z_catM, z_catA, z_catF, -List.map_take, -List.map_drop, -List.length_flatMap, line1, Cv.run, sts, st, ev, evt, evc, evs, evo, evi, startE, asgC, asg2C, asg3C, asg4C, z_ft, setV, slL, Function.comp_def, wipeE, seqD, s_get, s_min, s_max, s_join, s_index, s_disp1, s_new, s_new2, s_bin2, b_w_table_2, e_w_table_1, e0, e1, hrw, erw, rdE]
    refine Dr.part (Dr.lc (k := 1) (f := D.str) (Q := fun s => s ∈ ws) (by decide) (List.range (w + 1)) fun a _ => ?_) ?_ ?_
    · refine Dr.take ?_ ?_ ?_ fun v hv0 hv1 => ?_
      any_goals omega
      obtain ⟨s, hs1, es⟩ := ix_map (f := D.str) hv0 hv1
      rw [es]
      exact Dr.ret (by omega) ⟨s, rfl, hs1⟩
    · simp; omega
    · rintro _ ⟨us, rfl, hul, hus⟩
      rw [List.length_range] at hul
      have hul2 : us.length ≤ w + 1 := by omega
      have tyk : ∀ p ∈ fs, D.ty (wsD p.1) (.t (.l (w + 1) (.s 8))) = true := fun p hp => ww_ty hs (hf p hp).1 (hf p hp).2.1
      have tyr : ∀ r ∈ rs, D.ty (wsD r.ws) (.t (.l (w + 1) (.s 8))) = true := fun r h => ww_ty hs (hr r h).mem (by rw [(hr r h).len]; omega)
      have tyu : D.ty (wsD us) (.t (.l (w + 1) (.s 8))) = true := ww_ty hs hus hul2
      have tyc : D.ty (wsD (us.take key)) (.t (.l (w + 1) (.s 8))) = true := ww_ty hs (fun x hx => hus x (List.mem_of_mem_take hx)) (by rw [List.length_take]; omega)
      have hsl : sliD (.tup (us.map D.str)) none (some (key : Int)) = some (wsD (us.take key)) := by
        rw [sl_to, ← List.map_take]
        rfl
      have dk1 : dkOk (wsD (us.take key) :: fs.map fun p => wsD p.1) = true := dk_ty (r := .l (w + 1) (.s 8)) (fun x hx => by
        rcases List.mem_cons.mp hx with e | e
        · rw [e]; exact tyc
        · obtain ⟨p, hp, rfl⟩ := List.mem_map.mp e
          exact tyk p hp) (by simp [Rw.dp, Ty.dp])
      have dk2 : dkOk (wsD us :: rs.map fun r => wsD r.ws) = true := dk_ty (r := .l (w + 1) (.s 8)) (fun x hx => by
        rcases List.mem_cons.mp hx with e | e
        · rw [e]; exact tyu
        · obtain ⟨p, hp, rfl⟩ := List.mem_map.mp e
          exact tyr p hp) (by simp [Rw.dp, Ty.dp])
      obtain ⟨fv, hfv, efv⟩ := lk_ints (f := fun p : List Str × Int => wsD p.1) (k := fun p => p.2) (x := wsD (us.take key)) (fs := fs) fun p hp => (hf p hp).2.2
      have hg : getD2 [.dct (fs.map fun p => wsD p.1) (fs.map fun p => .int p.2), wsD (us.take key), .int 0] = M.ret (.int fv) := by
        show (if dkOk (wsD (us.take key) :: fs.map fun p => wsD p.1) = true then M.ret ((lkD _ _ _).getD (D.int 0)) else M.no) = _
        rw [if_pos dk1, efv]
      have hn : cmpD .notin (.tup (us.map D.str)) (.dct (rs.map fun r => wsD r.ws) (rs.map fun r => fr r.c)) = some (!hasD (rs.map fun r => wsD r.ws) (wsD us)) := by
        show (if dkOk (wsD us :: rs.map fun r => wsD r.ws) = true then some (!hasD _ _) else none) = _
        rw [if_pos dk2]
        rfl
      simp (config := { maxSteps := 400000 }) [z_rb, z_bb, z_br, z_os, z_on, z_nb, z_ib, z_oi, z_lcM, z_lcF, z_lcA, z_lcI, z_catM, z_catA, z_catF, -List.map_take, -List.map_drop, -List.length_flatMap, z_ft, Function.comp_def]
      refine Dr.take ?_ ?_ ?_ fun o ho0 ho1 => ?_
      any_goals omega
      generalize hov : (if under - fv < 1 + o then under - fv else 1 + o) = ov
      have hov1 : ov ≤ under := by rw [← hov]; split <;> omega
      have hov2 : ov ≤ under - fv := by rw [← hov]; split <;> omega
      simp (config := { maxSteps := 400000 }) [z_rb, z_bb, z_br, z_os, z_on, z_nb, z_I, z_B, z_O, z_L, z_ib, z_oi, z_lcD, z_lcM, z_lcF, z_lcA, z_lcI, z_catD, z_catM, z_catA, z_catF, -List.map_take, -List.map_drop, -List.length_flatMap, line1, Cv.run, sts, st, ev, evt, evc, evs, evo, evi, startE, asgC, asg2C, asg3C, asg4C, z_ft, setV, slL, Function.comp_def, wipeE, seqD, s_get, s_min, s_max, s_join, s_index, s_disp1, s_new, s_new2, s_bin2, hsl, hg, minD, hn, putE, rdE, hov]
      have stay : ∀ (y10 y11 : Sl), Dr (4 - ((w : Int) + 1) - 1) (M.ret (Fl.nx, taE nm ws most w key under rs fs (.val (.int x)) y10 y11 x12)) fun r => r.1 = .nx ∧ TaI nm ws most w key under (j + 1) r.2 := fun y10 y11 => Dr.ret (by omega) ⟨rfl, rs, fs, _, _, _, _, rfl, by omega, by omega, hr, hf⟩
      by_cases hh : hasD (rs.map fun r => wsD r.ws) (wsD us) = false
      · rw [if_pos hh]
        by_cases hp : 0 < ov
        · rw [if_pos hp, lo_ret (by omega) (by omega) (by omega)]
          rw [List.length_range] at hj
          have hrl : rs.length < sizeLine := by rw [sizeLine_eq]; omega
          have hfl : fs.length < sizeLine := by rw [sizeLine_eq]; omega
          have dk2' : dkOk (D.tup (us.map D.str) :: rs.map fun r => wsD r.ws) = true := dk2
          obtain ⟨a1, a2⟩ := put_new (f := fun r : Row => wsD r.ws) (g := fun r : Row => fr r.c) (x := wsD us) (v := fr (lw ov under)) ⟨us, lw ov under⟩ rfl rfl hh
          obtain ⟨fs', b1, b2, b3, b4⟩ := put_map (f := fun p : List Str × Int => wsD p.1) (g := fun p => .int p.2) (x := wsD (us.take key)) (v := .int (fv + ov)) (us.take key, fv + ov) (fun p => (p.1, fv + ov)) rfl rfl (fun _ => rfl) (fun _ => rfl) fs
          have a1' : putKs (rs.map fun r => wsD r.ws) (D.tup (us.map D.str)) = _ := a1
          have a2' : putVs (rs.map fun r => wsD r.ws) (rs.map fun r => fr r.c) (D.tup (us.map D.str)) (fr (lw ov under)) = _ := a2
          simp (config := { maxSteps := 400000 }) [z_rb, z_bb, z_br, z_os, z_on, z_nb, z_I, z_B, z_O, z_L, z_ib, z_oi, z_lcD, z_lcM, z_lcF, z_lcA, z_lcI, z_catD, z_catM, z_catA, z_catF, -List.map_take, -List.map_drop, -List.length_flatMap, line1, Cv.run, sts, st, ev, evt, evc, evs, evo, evi, startE, asgC, asg2C, asg3C, asg4C, z_ft, setV, slL, Function.comp_def, wipeE, seqD, s_get, s_min, s_max, s_join, s_index, s_disp1, s_new, s_new2, s_bin2, dk2', hrl, dk1, hfl, a1', a2', b1, b2]
          refine Dr.ret (by omega) ⟨rfl, rs ++ [⟨us, lw ov under⟩], fs', .val (.int x), .val (.tup (us.map D.str)), .val (.int ov), x12, by simp [taE], by rw [List.length_append]; show rs.length + 1 ≤ _; omega, by omega, ?_, ?_⟩
          · intro r hr2
            rcases List.mem_append.mp hr2 with e | e
            · exact hr r e
            · rw [List.mem_singleton.mp e]
              obtain ⟨q1, q2, q3⟩ := lw_fr hp hov1
              exact ⟨hul, hus, q1, q2, by show (lw ov under).2 ≤ 8; omega⟩
          · intro p hp2
            have hcut : (∀ x ∈ us.take key, x ∈ ws) ∧ (us.take key).length ≤ w + 1 := ⟨fun x hx => hus x (List.mem_of_mem_take hx), by rw [List.length_take]; omega⟩
            rcases b4 p hp2 with e | e | ⟨a, ha, e⟩
            · exact hf p e
            · rw [e]; exact ⟨hcut.1, hcut.2, by show 0 ≤ fv + ov; omega⟩
            · rw [e]; exact ⟨(hf a ha).1, (hf a ha).2.1, by show 0 ≤ fv + ov; omega⟩
        · rw [if_neg hp]
          exact stay _ _
      · rw [if_neg hh]
        exact stay _ _
  · simp; omega
  · rintro ⟨fl, en⟩ ⟨h1, rs, fs, x9, x10, x11, x12, h2, hl1, hl2, hr, hf⟩
    have h1 : fl = .nx := h1
    have h2 : en = _ := h2
    subst h1 h2
    rw [List.length_range] at hl1
    have ei : itemsD (rs.map fun r => wsD r.ws) (rs.map fun r => fr r.c) = rs.map Row.d := items_map _ _ rs
    have hso : srtD (rs.map Row.d) = some ((rs.map Row.d).mergeSort leD) := ty_srt (a := .t (.c (.t (.l 3 (.s 8))) (.c (.t (.c (.i 8) (.c (.i 8) .n))) .n))) (fun x hx => by
      obtain ⟨r, h, rfl⟩ := List.mem_map.mp hx
      exact row_ty hs (by omega) (hr r h)) (by decide) (by rw [List.length_map]; omega)
    have hso : b1D .sorted (.itv (rs.map fun r => wsD r.ws) (rs.map fun r => fr r.c)) = some (.lst ((rs.mergeSort fun a b => leD a.d b.d).map Row.d)) := by
      show (srtD (itemsD _ _)).map D.lst = _
      rw [ei, hso, ← List.map_mergeSort (r := fun a b : Row => leD a.d b.d) (s := leD) (f := Row.d) fun a _ b _ => rfl]
      rfl
    simp (config := { maxSteps := 400000 }) [z_rb, z_bb, z_br, z_os, z_on, z_nb, z_I, z_B, z_O, z_L, z_ib, z_oi, z_lcD, z_lcM, z_lcF, z_lcA, z_lcI, z_catD, z_catM, z_catA, z_catF, -List.map_take, -List.map_drop, -List.length_flatMap, line1, Cv.run, sts, st, ev, evt, evc, evs, evo, evi, startE, asgC, asg2C, asg3C, asg4C, z_ft, setV, slL, Function.comp_def, wipeE, seqD, s_get, s_min, s_max, s_join, s_index, s_disp1, s_new, s_new2, s_bin2, taE, frzE, m0D, hso]
    refine Dr.ret (by omega) ⟨⟨nm, w + 1, key, rs.mergeSort fun a b => leD a.d b.d⟩, ?_, rfl, by show 1 ≤ w + 1; omega, by show w + 1 ≤ 3; omega, hkw, ?_, ?_, rs, rfl⟩
    · show _ = D.tup [.str nm, .int ((w + 1 : Nat) : Int), .int key, .tup _]
      have : ((w + 1 : Nat) : Int) = 1 + (w : Int) := by omega
      rw [this]
    · show (rs.mergeSort _).length ≤ most
      rw [List.length_mergeSort]
      exact hl1
    · intro r h
      exact hr r ((List.mergeSort_perm _ _).mem_iff.mp h)
/-! ### a base -/
def poolA : List Str := ["a", "at", "link", "row", "zzzzzzzz"]
def wordsA : List Str := ["a", "b", "cc", "row"]
structure BsOk (most : Nat) (ts : List Tb) : Prop where
  len : ts.length ≤ 4
  nms : (ts.map (·.nm)).Sublist poolA
  tb : ∃ n, ∀ t ∈ ts, TbOk (wordsA.take n) most t
  sum : (ts.map (·.rows.length)).sum ≤ most
def bsD (ts : List Tb) : D := .tup (ts.map Tb.d)
structure BaR (most n : Nat) (xs : List Str) (j : Nat) (ts : List Tb) (L : Nat) : Prop where
  len : ts.length ≤ 4
  nms : (ts.map (·.nm)).Sublist (xs.take j)
  tb : ∀ t ∈ ts, TbOk (wordsA.take n) most t
  sum : (ts.map (·.rows.length)).sum + L ≤ most
def baE (most n : Nat) (ts : List Tb) (L : Nat) (x6 x7 : Sl) : En := [.val (.obj 0), .val (.int most), .val (.lst (poolA.map .str)), .val (.lst ((wordsA.take n).map .str)), .own (.ol (ts.map Tb.d)), .val (.int L), x6, x7]
def BaI (most n : Nat) (xs : List Str) (j : Nat) (en : En) : Prop := ∃ ts L x6 x7, en = baE most n ts L x6 x7 ∧ BaR most n xs j ts L
theorem TbOk.mono {ws : List Str} {m n : Nat} {t : Tb} (h : TbOk ws m t) (l : m ≤ n) : TbOk ws n t := ⟨h.w1, h.w3, h.key, Nat.le_trans h.len l, h.rows, h.srt⟩
theorem w4_words (n : Nat) : ∀ x ∈ wordsA.take n, W4 x := fun x hx => by
  have := List.mem_of_mem_take hx
  simp only [wordsA, List.mem_cons, List.not_mem_nil, or_false] at this
  rcases this with rfl | rfl | rfl | rfl <;> exact ⟨by decide, by decide⟩
theorem r_base (most : Nat) (hm : most ≤ 14) : Dr 340 (m_w_base [.obj 0, .int most]) fun d => ∃ ts, d = bsD ts ∧ BsOk most ts := by
  have e0 : c_w_base.fn[0]? = some tk_m := rfl
  have e1 : c_w_base.fn[1]? = some m_w_table := rfl
  simp (config := { maxSteps := 400000 }) [z_rb, z_bb, z_br, z_os, z_on, z_nb, z_I, z_B, z_O, z_L, z_ib, z_oi, z_lcD, z_lcM, z_lcF, z_lcA, z_lcI, z_catD, z_catM, z_catA, z_catF, -List.map_take, -List.map_drop, -List.length_flatMap, line1, Cv.run, sts, st, ev, evt, evc, evs, evo, evi, startE, asgC, asg2C, asg3C, asg4C, z_ft, setV, slL, Function.comp_def, wipeE, seqD, s_get, s_min, s_max, s_join, s_index, s_disp1, s_new, s_new2, s_bin2, m_w_base, N_w_base, b_w_base, e0, sliD]
  refine Dr.take ?_ ?_ ?_ fun w0 hw0 hw1 => ?_
  any_goals decide
  obtain ⟨n, hn⟩ : ∃ n : Nat, 2 + w0 = n := ⟨(2 + w0).toNat, by omega⟩
  have cw : cutD [D.str (Str.ofString "a"), D.str (Str.ofString "b"), D.str (Str.ofString "cc"), D.str (Str.ofString "row")] none (some (2 + w0)) = (wordsA.take n).map D.str := by
    rw [hn, cut_to _ (by omega), List.map_take]
    rfl
  simp (config := { maxSteps := 400000 }) [z_rb, z_bb, z_br, z_os, z_on, z_nb, z_I, z_B, z_O, z_L, z_ib, z_oi, z_lcD, z_lcM, z_lcF, z_lcA, z_lcI, z_catD, z_catM, z_catA, z_catF, -List.map_take, -List.map_drop, -List.length_flatMap, line1, Cv.run, sts, st, ev, evt, evc, evs, evo, evi, startE, asgC, asg2C, asg3C, asg4C, z_ft, setV, slL, Function.comp_def, wipeE, seqD, s_get, s_min, s_max, s_join, s_index, s_disp1, s_new, s_new2, s_bin2, cw]
  refine Dr.take ?_ ?_ ?_ fun v0 hv0 hv1 => ?_
  any_goals omega
  have cp : cutD [D.str (Str.ofString "a"), D.str (Str.ofString "at"), D.str (Str.ofString "link"), D.str (Str.ofString "row"), D.str (Str.ofString "zzzzzzzz")] (some v0) none = (poolA.drop v0.toNat).map D.str := by
    rw [cut_from _ hv0, List.map_drop]
    rfl
  simp (config := { maxSteps := 400000 }) [z_rb, z_bb, z_br, z_os, z_on, z_nb, z_I, z_B, z_O, z_L, z_ib, z_oi, z_lcD, z_lcM, z_lcF, z_lcA, z_lcI, z_catD, z_catM, z_catA, z_catF, -List.map_take, -List.map_drop, -List.length_flatMap, line1, Cv.run, sts, st, ev, evt, evc, evs, evo, evi, startE, asgC, asg2C, asg3C, asg4C, z_ft, setV, slL, Function.comp_def, wipeE, seqD, s_get, s_min, s_max, s_join, s_index, s_disp1, s_new, s_new2, s_bin2, cp]
  have hpl : (poolA.drop v0.toNat).length ≤ 5 := by rw [List.length_drop]; show 5 - _ ≤ 5; omega
  refine Dr.part (Dr.frr (k := 63) (BaI most n (poolA.drop v0.toNat)) (by decide) (poolA.drop v0.toNat) ⟨[], most, .no, .no, rfl, by simp, by simp, by simp, by simp⟩ ?_) ?_ ?_
  · rintro j nm en hx ⟨ts, L, x6, x7, rfl, hl, hnm, htb, hsum⟩
    rw [baE]
    simp (config := { maxSteps := 400000 }) [z_rb, z_bb, z_br, z_os, z_on, z_nb, z_I, z_B, z_O, z_L, z_ib, z_oi, z_lcD, z_lcM, z_lcF, z_lcA, z_lcI, z_catD, z_catM, z_catA, z_catF, -List.map_take, -List.map_drop, -List.length_flatMap, line1, Cv.run, sts, st, ev, evt, evc, evs, evo, evi, startE, asgC, asg2C, asg3C, asg4C, z_ft, setV, slL, Function.comp_def, wipeE, seqD, s_get, s_min, s_max, s_join, s_index, s_disp1, s_new, s_new2, s_bin2, b_w_base_1, e0, e1, rdE]
    refine Dr.take ?_ ?_ ?_ fun v hv0 hv1 => ?_
    any_goals omega
    simp (config := { maxSteps := 400000 }) [z_rb, z_bb, z_br, z_os, z_on, z_nb, z_I, z_B, z_O, z_L, z_ib, z_oi, z_lcD, z_lcM, z_lcF, z_lcA, z_lcI, z_catD, z_catM, z_catA, z_catF, -List.map_take, -List.map_drop, -List.length_flatMap, line1, Cv.run, sts, st, ev, evt, evc, evs, evo, evi, startE, asgC, asg2C, asg3C, asg4C, z_ft, setV, slL, Function.comp_def, wipeE, seqD, s_get, s_min, s_max, s_join, s_index, s_disp1, s_new, s_new2, s_bin2]
    have stay : Dr 62 (M.ret (Fl.nx, baE most n ts L (.val (.str nm)) x7)) fun r => r.1 = .nx ∧ BaI most n (poolA.drop v0.toNat) (j + 1) r.2 :=
      Dr.ret (by decide) ⟨rfl, ts, L, _, _, rfl, hl, hnm.trans (List.take_sublist_take_left (Nat.le_succ j)), htb, hsum⟩
    by_cases c1 : 0 < v
    · rw [if_pos c1]
      by_cases c2 : ts.length < 4
      · rw [if_pos (by omega)]
        have hln : (wordsA.take n).length = n := by rw [List.length_take]; show min n 4 = n; omega
        have hLm : L ≤ most := by omega
        have rest : ∀ m : Nat, m ≤ L → Dr 60 (M.bnd (m_w_table [.obj 0, .str nm, .lst ((wordsA.take n).map .str), .int m]) fun a => M.bnd (M.opt (idxD a (.int 3))) fun a_1 => M.bnd (M.opt (b1D .len a_1)) fun a_2 => M.bnd (M.opt (binD .sub (.int L) a_2)) fun a_3 =>
            M.bnd (M.opt (appE [.val (.obj 0), .val (.int most), .val (.lst (poolA.map .str)), .val (.lst ((wordsA.take n).map .str)), .own (.ol (ts.map Tb.d)), .val a_3, .val (.str nm), .val a] 4 a)) fun en1 => M.ret (Fl.nx, en1)) fun r => r.1 = .nx ∧ BaI most n (poolA.drop v0.toNat) (j + 1) r.2 := by
          intro m hmL
          refine Dr.part (r_table nm (wordsA.take n) m ⟨by omega, by omega⟩ (w4_words n) (by omega)) (by decide) ?_
          rintro _ ⟨t, rfl, hnt, ht⟩
          have hap : ts.length < sizeLine := by rw [sizeLine_eq]; omega
          have htl := ht.len
          simp (config := { maxSteps := 400000 }) [z_rb, z_bb, z_br, z_os, z_on, z_nb, z_I, z_B, z_O, z_L, z_ib, z_oi, z_lcD, z_lcM, z_lcF, z_lcA, z_lcI, z_catD, z_catM, z_catA, z_catF, -List.map_take, -List.map_drop, -List.length_flatMap, line1, Cv.run, sts, st, ev, evt, evc, evs, evo, evi, startE, asgC, asg2C, asg3C, asg4C, z_ft, setV, slL, Function.comp_def, wipeE, seqD, s_get, s_min, s_max, s_join, s_index, s_disp1, s_new, s_new2, s_bin2, Tb.d, appE, hap]
          refine Dr.ret (by decide) ⟨rfl, ts ++ [t], L - t.rows.length, .val (.str nm), .val t.d, ?_, ?_, ?_, ?_, ?_⟩
          · simp only [baE, Tb.d, List.map_append, List.map_cons, List.map_nil]
            have : ((L - t.rows.length : Nat) : Int) = (L : Int) - (t.rows.length : Int) := by omega
            rw [this]
          · rw [List.length_append]; show ts.length + 1 ≤ 4; omega
          · rw [List.map_append, List.take_succ, hx]
            show (ts.map (·.nm) ++ [t.nm]).Sublist _
            rw [hnt]
            exact hnm.append (List.Sublist.refl _)
          · intro t' ht'
            rcases List.mem_append.mp ht' with e | e
            · exact htb t' e
            · rw [List.mem_singleton.mp e]
              exact ht.mono (by omega)
          · rw [List.map_append, List.sum_append]
            show _ + (t.rows.length + 0) + (L - t.rows.length) ≤ most
            omega
        by_cases c3 : 0 < L
        · rw [if_pos c3]
          refine Dr.take ?_ ?_ ?_ fun q hq0 hq1 => ?_
          any_goals omega
          simp (config := { maxSteps := 400000 }) [z_rb, z_bb, z_br, z_os, z_on, z_nb, z_I, z_B, z_O, z_L, z_ib, z_oi, z_lcD, z_lcM, z_lcF, z_lcA, z_lcI, z_catD, z_catM, z_catA, z_catF, -List.map_take, -List.map_drop, -List.length_flatMap, line1, Cv.run, sts, st, ev, evt, evc, evs, evo, evi, startE, asgC, asg2C, asg3C, asg4C, z_ft, setV, slL, Function.comp_def, wipeE, seqD, s_get, s_min, s_max, s_join, s_index, s_disp1, s_new, s_new2, s_bin2]
          refine Dr.take ?_ ?_ ?_ fun p hp0 hp1 => ?_
          any_goals omega
          obtain ⟨d, hd, ed⟩ := ix_in (xs := [.int L, .int q]) hp0 hp1
          obtain ⟨m, rfl, hml⟩ : ∃ m : Nat, d = .int (m : Int) ∧ m ≤ L := by
            simp only [List.mem_cons, List.not_mem_nil, or_false] at hd
            rcases hd with rfl | rfl
            · exact ⟨L, rfl, Nat.le_refl _⟩
            · exact ⟨q.toNat, by congr 1; omega, by omega⟩
          rw [ed]
          exact rest m hml
        · rw [if_neg c3]
          exact Dr.mono (rest 0 (Nat.zero_le _)) (by decide) fun _ h => h
      · rw [if_neg (by omega)]
        exact stay
    · rw [if_neg c1]
      exact stay
  · omega
  · rintro ⟨fl, en⟩ ⟨h1, ts, L, x6, x7, h2, hl, hnm, htb, hsum⟩
    have h1 : fl = .nx := h1
    have h2 : en = _ := h2
    subst h1 h2
    rw [baE]
    simp (config := { maxSteps := 400000 }) [z_rb, z_bb, z_br, z_os, z_on, z_nb, z_I, z_B, z_O, z_L, z_ib, z_oi, z_lcD, z_lcM, z_lcF, z_lcA, z_lcI, z_catD, z_catM, z_catA, z_catF, -List.map_take, -List.map_drop, -List.length_flatMap, line1, Cv.run, sts, st, ev, evt, evc, evs, evo, evi, startE, asgC, asg2C, asg3C, asg4C, z_ft, setV, slL, Function.comp_def, wipeE, seqD, s_get, s_min, s_max, s_join, s_index, s_disp1, s_new, s_new2, s_bin2, frzE]
    have hp5 : poolA.length = 5 := rfl
    refine Dr.ret (by omega) ⟨ts, rfl, hl, ?_, ⟨n, htb⟩, by omega⟩
    rw [List.take_length] at hnm
    exact hnm.trans (List.drop_sublist _ _)
/-! ### a join -/
def tmD (p : Str × Str) : D := .tup [.str p.1, .str p.2]
structure Atm where
  nm : Str
  ts : List (Str × Str)
def Atm.d (a : Atm) : D := .tup [.str a.nm, .tup (a.ts.map tmD)]
def jnD (as : List Atm) : D := .tup (as.map Atm.d)
def TmOk (p : Str × Str) : Prop := (p.1 = "word" ∧ p.2 ∈ wordsA) ∨ (p.1 = "any" ∧ p.2 ∈ (["x", "y", "z"] : List Str))
structure AtOk (a : Atm) : Prop where
  nm : a.nm ∈ ("nought" : Str) :: poolA
  len : a.ts.length ≤ 4
  tm : ∀ p ∈ a.ts, TmOk p
def tyTm : Ty := .t (.c (.s 4) (.c (.s 8) .n))
def tyAt : Ty := .t (.c (.s 8) (.c (.t (.l 4 tyTm)) .n))
def tyTb : Ty := .t (.c (.s 8) (.c (.i 8) (.c (.i 8) (.c (.t (.l 14 (.t (.c (.t (.l 3 (.s 8))) (.c (.t (.c (.i 8) (.c (.i 8) .n))) .n))))) .n))))
theorem w4_pool : ∀ x ∈ ("nought" : Str) :: poolA, W4 x := fun x hx => by
  simp only [poolA, List.mem_cons, List.not_mem_nil, or_false] at hx
  rcases hx with rfl | rfl | rfl | rfl | rfl | rfl <;> exact ⟨by decide, by decide⟩
theorem w4_ty {s : Str} (h : W4 s) : D.ty (.str s) (.s 8) = true := Bool.and_eq_true_iff.mpr ⟨h.1, decide_eq_true h.2⟩
theorem tm_ty {p : Str × Str} (h : TmOk p) : D.ty (tmD p) tyTm = true := by
  obtain ⟨a, b⟩ := p
  rcases h with ⟨h1, h2⟩ | ⟨h1, h2⟩
  · have h1 : a = "word" := h1
    subst h1
    have := w4_ty (w4_words 4 b (by simpa [wordsA] using h2))
    show (D.ty (.str "word") (.s 4) && (D.ty (.str b) (.s 8) && true)) = true
    rw [this]; decide
  · have h1 : a = "any" := h1
    subst h1
    have : D.ty (.str b) (.s 8) = true := by
      have h2 : b ∈ (["x", "y", "z"] : List Str) := h2
      simp only [List.mem_cons, List.not_mem_nil, or_false] at h2
      rcases h2 with rfl | rfl | rfl <;> decide
    show (D.ty (.str "any") (.s 4) && (D.ty (.str b) (.s 8) && true)) = true
    rw [this]; decide
theorem at_ty {a : Atm} (h : AtOk a) : D.ty a.d tyAt = true := by
  have h1 := w4_ty (w4_pool _ h.nm)
  have h2 : D.rw (a.ts.map tmD) (.l 4 tyTm) = true := rw_lM (fun p hp => tm_ty (h.tm p hp)) h.len
  show (D.ty (.str a.nm) (.s 8) && (D.rw (a.ts.map tmD) (.l 4 tyTm) && true)) = true
  rw [h1, h2]; rfl
theorem tb_ty {most : Nat} {n : Nat} {t : Tb} (hm : most ≤ 14) (hn : t.nm ∈ poolA) (h : TbOk (wordsA.take n) most t) : D.ty t.d tyTb = true := by
  have h1 := w4_ty (w4_pool _ (List.mem_cons_of_mem _ hn))
  have h2 : D.rw (t.rows.map Row.d) (.l 14 (.t (.c (.t (.l 3 (.s 8))) (.c (.t (.c (.i 8) (.c (.i 8) .n))) .n)))) = true := rw_lM (fun r hr => row_ty (w4_words n) h.w3 (h.rows r hr)) (Nat.le_trans h.len hm)
  have e1 : decide (((t.w : Nat) : Int).natAbs ≤ 8) = true := decide_eq_true (by have := h.w3; omega)
  have e2 : decide (((t.key : Nat) : Int).natAbs ≤ 8) = true := decide_eq_true (by have := h.w3; have := h.key; omega)
  show (D.ty (.str t.nm) (.s 8) && (decide (((t.w : Nat) : Int).natAbs ≤ 8) && (decide (((t.key : Nat) : Int).natAbs ≤ 8) && (D.rw (t.rows.map Row.d) _ && true)))) = true
  rw [h1, e1, e2, h2]; rfl
theorem BsOk.nm {most : Nat} {ts : List Tb} (h : BsOk most ts) {t : Tb} (ht : t ∈ ts) : t.nm ∈ poolA := h.nms.subset (List.mem_map_of_mem ht)
theorem bs_ty {most : Nat} {ts : List Tb} (hm : most ≤ 14) (h : BsOk most ts) : D.ty (bsD ts) (.t (.l 4 tyTb)) = true := by
  obtain ⟨n, hn⟩ := h.tb
  exact rw_lM (xs := ts) (f := Tb.d) (fun t ht => tb_ty hm (h.nm ht) (hn t ht)) h.len
theorem empT {ds : List D} (h : shp (.tup ds) = true) : cmpD .eq (.tup ds) (.tup []) = some ds.isEmpty := by
  show (if shp (.tup ds) && shp (.tup []) then some (PyData.eqv (D.tup ds).py (D.tup []).py) else none) = _
  rw [h]
  cases ds <;> rfl
def FlagOk (ts : List Tb) (d : D) : Prop := ∃ b : Bool, d = D.bl b ∧ (ts = [] → b = true)
def ntD (p : Str × Nat) : D := .tup [.str p.1, .int (p.2 : Int)]
def tbsOf (ts : List Tb) (b : Bool) : List (Str × Nat) := ts.map (fun t => (t.nm, t.w)) ++ (if b then [(("nought" : Str), 1)] else [])
theorem tbs_eq {α : Type} (ts : List Tb) (b : Bool) (hl : ts.length ≤ 4) (F : D → M α) : ((M.opt (b1D B1.int (D.bl b))).bnd fun a => (M.opt (binD Bo.mul (D.lst [D.tup [D.str (Str.ofString "nought"), D.int 1]]) a)).bnd fun a =>
    (M.opt (binD Bo.add (D.lst (ts.map (fun a => D.tup [D.str a.nm, D.int (a.w : Int)]))) a)).bnd F) = F (.lst ((tbsOf ts b).map ntD)) := by
  have hz : ts.length + 1 ≤ sizeLine := by rw [sizeLine_eq]; omega
  have hz2 : ts.length ≤ sizeLine := by omega
  have e : (ts.map fun a => D.tup [D.str a.nm, D.int (a.w : Int)]) = (ts.map fun t => (t.nm, t.w)).map ntD := by rw [List.map_map]; rfl
  cases b with
  | true =>
    show (M.opt (binD Bo.add (D.lst (ts.map (fun a => D.tup [D.str a.nm, D.int (a.w : Int)]))) (.lst [ntD ("nought", 1)]))).bnd F = _
    rw [e]
    show (M.opt (if ((ts.map fun t => (t.nm, t.w)).map ntD).length + 1 ≤ sizeLine then some (D.lst _) else none)).bnd F = _
    rw [if_pos (by rw [List.length_map, List.length_map]; exact hz)]
    show F _ = F _
    unfold tbsOf
    rw [List.map_append]
    rfl
  | false =>
    show (M.opt (binD Bo.add (D.lst (ts.map (fun a => D.tup [D.str a.nm, D.int (a.w : Int)]))) (.lst []))).bnd F = _
    rw [e]
    show (M.opt (if ((ts.map fun t => (t.nm, t.w)).map ntD).length + 0 ≤ sizeLine then some (D.lst _) else none)).bnd F = _
    rw [if_pos (by rw [List.length_map, List.length_map]; exact hz2)]
    show F _ = F _
    unfold tbsOf
    rw [List.map_append]
    rfl
theorem tbs_ok {m0 : Nat} {ts : List Tb} (h : BsOk m0 ts) {b : Bool} (hb : ts = [] → b = true) : 0 < (tbsOf ts b).length ∧ (tbsOf ts b).length ≤ 5 ∧ ∀ p ∈ tbsOf ts b, p.1 ∈ ("nought" : Str) :: poolA ∧ 1 ≤ p.2 ∧ p.2 ≤ 3 := by
  obtain ⟨n, hn⟩ := h.tb
  unfold tbsOf
  refine ⟨?_, ?_, fun p hp => ?_⟩
  · cases ts with
    | nil => rw [hb rfl]; exact Nat.one_pos
    | cons t r => simp
  · have := h.len
    rw [List.length_append, List.length_map]
    cases b <;> simp <;> omega
  · rcases List.mem_append.mp hp with e | e
    · obtain ⟨t, ht, rfl⟩ := List.mem_map.mp e
      exact ⟨List.mem_cons_of_mem _ (h.nm ht), (hn t ht).w1, (hn t ht).w3⟩
    · cases b with
      | true => rw [List.mem_singleton.mp e]; exact ⟨List.mem_cons_self, by decide, by decide⟩
      | false => simp at e
def joE (ts : List Tb) (most : Nat) (as : List Atm) (x4 x5 x6 x7 x8 x9 x10 x11 : Sl) : En := [.val (.obj 0), .val (bsD ts), .val (.int most), .own (.ol (as.map Atm.d)), x4, x5, x6, x7, x8, x9, x10, x11]
def jtE (ts : List Tb) (most : Nat) (as : List Atm) (x4 x5 : Sl) (w : Nat) (us : List (Str × Str)) (x8 : Sl) (nm : Str) (x10 x11 : Sl) : En := joE ts most as x4 x5 (.val (.int w)) (.own (.ol (us.map tmD))) x8 (.val (.str nm)) x10 x11
def JtI (ts : List Tb) (most : Nat) (as : List Atm) (x4 x5 : Sl) (w : Nat) (nm : Str) (j : Nat) (en : En) : Prop := ∃ us x8 x10 x11, en = jtE ts most as x4 x5 w us x8 nm x10 x11 ∧ us.length ≤ j ∧ ∀ p ∈ us, TmOk p
theorem xyz_at (v : Int) (h0 : 0 ≤ v) : ∃ s : Str, idxD (.str "xyz") (.int (v.fmod 3)) = some (.str s) ∧ s ∈ (["x", "y", "z"] : List Str) := by
  have h := fmod_pos (a := v) (b := 3) (by decide)
  generalize v.fmod 3 = u at h
  have : u = 0 ∨ u = 1 ∨ u = 2 := by omega
  have hz : Str.length "xyz" ≤ sizeLine := by rw [sizeLine_eq]; decide
  have e : ∀ i : Int, idxD (.str "xyz") (.int i) = (atD [120, 121, 122] i).map fun c => .str ⟨#[c]⟩ := fun i => by
    show (if Str.length "xyz" ≤ sizeLine then (atD (Str.ofString "xyz").cps.toList i).map fun c => D.str ⟨#[c]⟩ else none) = _
    rw [if_pos hz]
    rfl
  rcases this with rfl | rfl | rfl
  · exact ⟨"x", by rw [e]; rfl, by decide⟩
  · exact ⟨"y", by rw [e]; rfl, by decide⟩
  · exact ⟨"z", by rw [e]; rfl, by decide⟩
def JoI (ts : List Tb) (most j : Nat) (en : En) : Prop := ∃ as x4 x5 x6 x7 x8 x9 x10 x11, en = joE ts most as x4 x5 x6 x7 x8 x9 x10 x11 ∧ as.length ≤ j ∧ ∀ a ∈ as, AtOk a
theorem r_join {m0 : Nat} {ts : List Tb} (h : BsOk m0 ts) (hm0 : m0 ≤ 14) (most : Nat) (hm : most ≤ 4) : Dr 80 (m_w_join [.obj 0, bsD ts, .int most]) fun d => ∃ as, d = jnD as ∧ as.length ≤ most ∧ (∀ a ∈ as, AtOk a) ∧ ∃ xs, as = ssBy Atm.d xs := by
  have e0 : c_w_join.fn[0]? = some tk_m := rfl
  have hs := ty_shp (bs_ty hm0 h) (by decide) (by decide)
  simp (config := { maxSteps := 400000 }) [z_rb, z_bb, z_br, z_os, z_on, z_nb, z_I, z_B, z_O, z_L, z_ib, z_oi, z_lcD, z_lcM, z_lcF, z_lcA, z_lcI, z_catD, z_catM, z_catA, z_catF, -List.map_take, -List.map_drop, -List.length_flatMap, line1, Cv.run, sts, st, ev, evt, evc, evs, evo, evi, startE, asgC, asg2C, asg3C, asg4C, z_ft, setV, slL, Function.comp_def, wipeE, seqD, s_get, s_min, s_max, s_join, s_index, s_disp1, s_new, s_new2, s_bin2, m_w_join, N_w_join, b_w_join, e0]
  refine Dr.take ?_ ?_ ?_ fun k0 hk0 hk1 => ?_
  any_goals omega
  obtain ⟨k, rfl⟩ : ∃ k : Nat, k0 = k := ⟨k0.toNat, by omega⟩
  have hrg : rgOk (k : Int) = true := by
    unfold rgOk
    rw [Bool.and_eq_true, decide_eq_true_eq, decide_eq_true_eq]
    omega
  have er : rangeD 0 (k : Int) = (List.range k).map fun (k : Nat) => D.int (0 + (k : Int)) := by
    unfold rangeD
    simp
  simp (config := { maxSteps := 400000 }) [z_rb, z_bb, z_br, z_os, z_on, z_nb, z_I, z_B, z_O, z_L, z_ib, z_oi, z_lcD, z_lcM, z_lcF, z_lcA, z_lcI, z_catD, z_catM, z_catA, z_catF, -List.map_take, -List.map_drop, -List.length_flatMap, line1, Cv.run, sts, st, ev, evt, evc, evs, evo, evi, startE, asgC, asg2C, asg3C, asg4C, z_ft, setV, slL, Function.comp_def, wipeE, seqD, s_get, s_min, s_max, s_join, s_index, s_disp1, s_new, s_new2, s_bin2, hrg, er]
  refine Dr.part (Dr.frr (k := 12) (JoI ts most) (by decide) (List.range k) ⟨[], _, _, _, _, _, _, _, _, rfl, by simp, by simp⟩ ?_) ?_ ?_
  · rintro j x en hx ⟨as, x4, x5, x6, x7, x8, x9, x10, x11, rfl, hl, ha⟩
    rw [joE]
    have hj := get_lt hx
    rw [List.length_range] at hj
    have hem : cmpD .eq (.tup (ts.map Tb.d)) (.tup []) = some (ts.map Tb.d).isEmpty := empT hs
    simp (config := { maxSteps := 400000 }) [z_rb, z_bb, z_br, z_os, z_on, z_nb, z_I, z_B, z_O, z_L, z_ib, z_oi, z_lcD, z_lcM, z_lcF, z_lcA, z_lcI, z_catD, z_catM, z_catA, z_catF, -List.map_take, -List.map_drop, -List.length_flatMap, line1, Cv.run, sts, st, ev, evt, evc, evs, evo, evi, startE, asgC, asg2C, asg3C, asg4C, z_ft, setV, slL, Function.comp_def, wipeE, seqD, s_get, s_min, s_max, s_join, s_index, s_disp1, s_new, s_new2, s_bin2, b_w_join_3, e_w_join_1, e0, bsD, Tb.d, hem, -z_ib]
    refine Dr.part (k := 1) (P := FlagOk ts) ?_ (by decide) ?_
    · by_cases c : ts = []
      · rw [if_pos c]
        exact Dr.ret (by decide) ⟨true, rfl, fun _ => rfl⟩
      · rw [if_neg c]
        refine Dr.take ?_ ?_ ?_ fun v hv0 hv1 => ?_
        any_goals omega
        simp (config := { maxSteps := 400000 }) [z_rb, z_bb, z_br, z_os, z_on, z_nb, z_I, z_B, z_O, z_L, z_ib, z_oi, z_lcD, z_lcM, z_lcF, z_lcA, z_lcI, z_catD, z_catM, z_catA, z_catF, -List.map_take, -List.map_drop, -List.length_flatMap, line1, Cv.run, sts, st, ev, evt, evc, evs, evo, evi, startE, asgC, asg2C, asg3C, asg4C, z_ft, setV, slL, Function.comp_def, wipeE, seqD, s_get, s_min, s_max, s_join, s_index, s_disp1, s_new, s_new2, s_bin2]
        exact Dr.ret (by decide) ⟨_, rfl, fun e => absurd e c⟩
    · rintro _ ⟨b, rfl, hb⟩
      obtain ⟨q1, q2, q3⟩ := tbs_ok h hb
      rw [tbs_eq ts b h.len]
      simp (config := { maxSteps := 400000 }) [z_rb, z_bb, z_br, z_os, z_on, z_nb, z_I, z_B, z_O, z_L, z_ib, z_oi, z_lcD, z_lcM, z_lcF, z_lcA, z_lcI, z_catD, z_catM, z_catA, z_catF, -List.map_take, -List.map_drop, -List.length_flatMap, line1, Cv.run, sts, st, ev, evt, evc, evs, evo, evi, startE, asgC, asg2C, asg3C, asg4C, z_ft, setV, slL, Function.comp_def, wipeE, seqD, s_get, s_min, s_max, s_join, s_index, s_disp1, s_new, s_new2, s_bin2]
      refine Dr.take ?_ ?_ ?_ fun v hv0 hv1 => ?_
      any_goals omega
      obtain ⟨⟨nm, w⟩, hp, ep⟩ := ix_map (f := ntD) hv0 hv1
      obtain ⟨r1, r2, r3⟩ := q3 _ hp
      have r2 : 1 ≤ w := r2
      have r3 : w ≤ 3 := r3
      rw [ep, ntD]
      simp (config := { maxSteps := 400000 }) [z_rb, z_bb, z_br, z_os, z_on, z_nb, z_I, z_B, z_O, z_L, z_ib, z_oi, z_lcD, z_lcM, z_lcF, z_lcA, z_lcI, z_catD, z_catM, z_catA, z_catF, -List.map_take, -List.map_drop, -List.length_flatMap, line1, Cv.run, sts, st, ev, evt, evc, evs, evo, evi, startE, asgC, asg2C, asg3C, asg4C, z_ft, setV, slL, Function.comp_def, wipeE, seqD, s_get, s_min, s_max, s_join, s_index, s_disp1, s_new, s_new2, s_bin2]
      refine Dr.take ?_ ?_ ?_ fun u hu0 hu1 => ?_
      any_goals omega
      obtain ⟨w2, hw2, hw3⟩ : ∃ w2 : Nat, (w : Int) + (if u = 0 then 1 else 0) = (w2 : Int) ∧ w2 ≤ 4 := ⟨if u = 0 then w + 1 else w, by split <;> simp, by split <;> omega⟩
      have hrg2 : rgOk (w2 : Int) = true := by
        unfold rgOk
        rw [Bool.and_eq_true, decide_eq_true_eq, decide_eq_true_eq]
        omega
      have er2 : rangeD 0 (w2 : Int) = (List.range w2).map fun (k : Nat) => D.int (0 + (k : Int)) := by
        unfold rangeD
        simp
      have hw4 : (w : Int) + (if u == 0 then 1 else 0) = (w2 : Int) := by rw [← hw2]; simp
      have eb : ∀ F : D → M (Fl × En), ((M.opt (cmpD Co.eq (D.int u) (D.int 0))).bnd fun a => (M.opt (b1D B1.int (D.bl a))).bnd fun a => (M.opt (binD Bo.add (D.int (w : Int)) a)).bnd F) = F (.int w2) := fun F => by
        rw [c_eq]
        show F (.int ((w : Int) + (if u == 0 then 1 else 0))) = _
        rw [hw4]
      rw [eb]
      simp (config := { maxSteps := 400000 }) [z_rb, z_bb, z_br, z_os, z_on, z_nb, z_I, z_B, z_O, z_L, z_ib, z_oi, z_lcD, z_lcM, z_lcF, z_lcA, z_lcI, z_catD, z_catM, z_catA, z_catF, -List.map_take, -List.map_drop, -List.length_flatMap, line1, Cv.run, sts, st, ev, evt, evc, evs, evo, evi, startE, asgC, asg2C, asg3C, asg4C, z_ft, setV, slL, Function.comp_def, wipeE, seqD, s_get, s_min, s_max, s_join, s_index, s_disp1, s_new, s_new2, s_bin2, hrg2, er2]
      refine Dr.part (Dr.frr (k := 2) (JtI ts most as (.val (.int x)) (.val (.lst ((tbsOf ts b).map ntD))) w2 nm) (by decide) (List.range w2) ⟨[], x8, x10, x11, rfl, by simp, by simp⟩ ?_) ?_ ?_
      · rintro i y en hy ⟨us, z8, z10, z11, rfl, hul, hut⟩
        have hi := get_lt hy
        rw [List.length_range] at hi
        rw [jtE, joE]
        simp (config := { maxSteps := 400000 }) [z_rb, z_bb, z_br, z_os, z_on, z_nb, z_I, z_B, z_O, z_L, z_ib, z_oi, z_lcD, z_lcM, z_lcF, z_lcA, z_lcI, z_catD, z_catM, z_catA, z_catF, -List.map_take, -List.map_drop, -List.length_flatMap, line1, Cv.run, sts, st, ev, evt, evc, evs, evo, evi, startE, asgC, asg2C, asg3C, asg4C, z_ft, setV, slL, Function.comp_def, wipeE, seqD, s_get, s_min, s_max, s_join, s_index, s_disp1, s_new, s_new2, s_bin2, b_w_join_2, e0]
        refine Dr.take ?_ ?_ ?_ fun way hy0 hy1 => ?_
        any_goals omega
        have hap : us.length < sizeLine := by rw [sizeLine_eq]; omega
        have fin : ∀ p : Str × Str, TmOk p → ∀ z : Sl, Dr 0 (M.ret (Fl.nx, jtE ts most as (.val (.int x)) (.val (.lst ((tbsOf ts b).map ntD))) w2 (us ++ [p]) (.val (.int y)) nm z z11)) fun r => r.1 = .nx ∧ JtI ts most as (.val (.int x)) (.val (.lst ((tbsOf ts b).map ntD))) w2 nm (i + 1) r.2 :=
          fun p hp z => Dr.ret (by decide) ⟨rfl, us ++ [p], _, _, _, rfl, by rw [List.length_append]; show us.length + 1 ≤ _; omega, fun q hq => by
            rcases List.mem_append.mp hq with e | e
            · exact hut q e
            · rw [List.mem_singleton.mp e]; exact hp⟩
        rw [c_eq, z_os, z_rb]
        by_cases hw0 : (way == 0) = true
        · rw [if_pos hw0]
          refine Dr.take ?_ ?_ ?_ fun q hq0 hq1 => ?_
          any_goals omega
          obtain ⟨s, hs1, es⟩ := ix_map (f := D.str) (xs := wordsA) hq0 hq1
          have es : idxD (.lst [D.str (Str.ofString "a"), D.str (Str.ofString "b"), D.str (Str.ofString "cc"), D.str (Str.ofString "row")]) (.int q) = some (.str s) := es
          simp (config := { maxSteps := 400000 }) [z_rb, z_bb, z_br, z_os, z_on, z_nb, z_I, z_B, z_O, z_L, z_ib, z_oi, z_lcD, z_lcM, z_lcF, z_lcA, z_lcI, z_catD, z_catM, z_catA, z_catF, -List.map_take, -List.map_drop, -List.length_flatMap, line1, Cv.run, sts, st, ev, evt, evc, evs, evo, evi, startE, asgC, asg2C, asg3C, asg4C, z_ft, setV, slL, Function.comp_def, wipeE, seqD, s_get, s_min, s_max, s_join, s_index, s_disp1, s_new, s_new2, s_bin2, es, appE, hap]
          have := fin ("word", s) (.inl ⟨rfl, hs1⟩) (.val (.int way))
          simpa [jtE, joE, tmD] using this
        · rw [if_neg hw0]
          obtain ⟨s, es, hs1⟩ := xyz_at way hy0
          simp (config := { maxSteps := 400000 }) [z_rb, z_bb, z_br, z_os, z_on, z_nb, z_I, z_B, z_O, z_L, z_ib, z_oi, z_lcD, z_lcM, z_lcF, z_lcA, z_lcI, z_catD, z_catM, z_catA, z_catF, -List.map_take, -List.map_drop, -List.length_flatMap, line1, Cv.run, sts, st, ev, evt, evc, evs, evo, evi, startE, asgC, asg2C, asg3C, asg4C, z_ft, setV, slL, Function.comp_def, wipeE, seqD, s_get, s_min, s_max, s_join, s_index, s_disp1, s_new, s_new2, s_bin2, es, appE, hap]
          have := Dr.mono (k := 1) (fin ("any", s) (.inr ⟨rfl, hs1⟩) (.val (.int way))) (by decide) fun _ h => h
          simpa [jtE, joE, tmD] using this
      · simp; omega
      · rintro ⟨fl, en⟩ ⟨h1, us, z8, z10, z11, h2, hul, hut⟩
        have h1 : fl = .nx := h1
        have h2 : en = _ := h2
        subst h1 h2
        rw [List.length_range] at hul
        have hap : as.length < sizeLine := by rw [sizeLine_eq]; omega
        rw [jtE, joE]
        simp (config := { maxSteps := 400000 }) [z_rb, z_bb, z_br, z_os, z_on, z_nb, z_I, z_B, z_O, z_L, z_ib, z_oi, z_lcD, z_lcM, z_lcF, z_lcA, z_lcI, z_catD, z_catM, z_catA, z_catF, -List.map_take, -List.map_drop, -List.length_flatMap, line1, Cv.run, sts, st, ev, evt, evc, evs, evo, evi, startE, asgC, asg2C, asg3C, asg4C, z_ft, setV, slL, Function.comp_def, wipeE, seqD, s_get, s_min, s_max, s_join, s_index, s_disp1, s_new, s_new2, s_bin2, frzE, appE, hap]
        refine Dr.ret (by omega) ⟨rfl, as ++ [⟨nm, us⟩], _, _, _, _, _, _, _, _, by rw [joE, List.map_append]; rfl, by rw [List.length_append]; show as.length + 1 ≤ _; omega, fun a ha2 => ?_⟩
        rcases List.mem_append.mp ha2 with e | e
        · exact ha a e
        · rw [List.mem_singleton.mp e]
          exact ⟨r1, by show us.length ≤ 4; omega, hut⟩
  · simp; omega
  · rintro ⟨fl, en⟩ ⟨h1, as, x4, x5, x6, x7, x8, x9, x10, x11, h2, hl, ha⟩
    have h1 : fl = .nx := h1
    have h2 : en = _ := h2
    subst h1 h2
    rw [List.length_range] at hl
    have h3 : ∀ x ∈ as.map Atm.d, D.ty x tyAt = true := fun x hx => by
      obtain ⟨a, h, rfl⟩ := List.mem_map.mp hx
      exact at_ty (ha a h)
    obtain ⟨e1, e2⟩ := ss_go (r := _) h3 (by decide) (by rw [List.length_map]; omega)
    rw [joE]
    simp (config := { maxSteps := 400000 }) [z_rb, z_bb, z_br, z_os, z_on, z_nb, z_I, z_B, z_O, z_L, z_ib, z_oi, z_lcD, z_lcM, z_lcF, z_lcA, z_lcI, z_catD, z_catM, z_catA, z_catF, -List.map_take, -List.map_drop, -List.length_flatMap, line1, Cv.run, sts, st, ev, evt, evc, evs, evo, evi, startE, asgC, asg2C, asg3C, asg4C, z_ft, setV, slL, Function.comp_def, wipeE, seqD, s_get, s_min, s_max, s_join, s_index, s_disp1, s_new, s_new2, s_bin2, frzE, e1, e2]
    rw [ss_map]
    exact Dr.ret (by omega) ⟨ssBy Atm.d as, rfl, Nat.le_trans (ssBy_len _ _) (by omega), fun a h => ha a (ssBy_mem h), as, rfl⟩
end Cv

/-! Fa2: words put for variables. -/
namespace Cv
open PySem PySem.Spec PyProof.Rows L2
def N_put_in : List Str := ["join", "putting", "found", "name", "terms", "words", "kind", "word"]
def e_put_in_1 : E := .lc1 [6, 7] (.tp2 (.nm 6) (.nm 7)) (.sq (.var 4)) .n (.ife (.and (.cmp .eq (.var 6) (.str "any")) (.cmp .isin (.var 7) (.var 1))) (.tup (.c (.str "word") (.c (.idx (.var 1) (.var 7)) .n))) (.tup (.c (.var 6) (.c (.var 7) .n))))
def b_put_in_2 : List S := [.setc 5 e_put_in_1, .app 2 (.tup (.c (.var 3) (.c (.b1 .tuple (.var 5)) .n)))]
def b_put_in : List S := [.seto 2 (.lst .n), .frr (.tp2 (.nm 3) (.nm 4)) (.sq (.var 0)) b_put_in_2, .frz 2, .ret (.b1 .tuple (.b1 .sorted (.b1 .set (.var 2))))]
def c_put_in : Cf := ⟨[], []⟩
def m_put_in : List D → M D := run c_put_in ⟨N_put_in.length, b_put_in⟩ 2
def N_put_words : List Str := ["question", "names", "word", "joins", "join", "name"]
def e_put_words_1 : E := .lc1 [4, 5] (.tp2 (.nm 4) (.nm 5)) (.zip true (.var 0) (.var 1)) .n (.call 0 (.c (.var 4) (.c (.prim pDisp1 (.c (.var 5) (.c (.var 2) .n))) .n)))
def b_put_words : List S := [.setc 3 e_put_words_1, .ret (.b1 .tuple (.b1 .sorted (.b1 .set (.var 3))))]
def c_put_words : Cf := ⟨[], [m_put_in]⟩
def m_put_words : List D → M D := run c_put_words ⟨N_put_words.length, b_put_words⟩ 3
def N_facts_by : List Str := ["join", "putting", "known", "name", "terms", "kind", "word"]
def e_facts_by_1 : E := .lc1 [5, 6] (.tp2 (.nm 5) (.nm 6)) (.sq (.var 4)) .n (.var 6)
def e_facts_by_2 : E := .lc1 [3, 4] (.tp2 (.nm 3) (.nm 4)) (.sq (.call 0 (.c (.var 0) (.c (.var 2) .n)))) .n (.tup (.c (.var 3) (.c (.b1 .tuple e_facts_by_1) .n)))
def b_facts_by : List S := [.set (.nm 2) (.b1 .dict (.var 1)), .ret (.b1 .tuple e_facts_by_2)]
def c_facts_by : Cf := ⟨[], [m_put_in]⟩
def m_facts_by : List D → M D := run c_facts_by ⟨N_facts_by.length, b_facts_by⟩ 2
/-- a putting -/
def look2 (kv : List (Str × Str)) (s : Str) : Option Str := (kv.find? fun p => decide (p.1 = s)).map (·.2)
def dD (kv : List (Str × Str)) : D := .dct (kv.map fun p => .str p.1) (kv.map fun p => .str p.2)
def pT (kv : List (Str × Str)) (t : Str × Str) : Str × Str := if t.1 = "any" then match look2 kv t.2 with
  | some w => ("word", w)
  | none => t else t
def pA (kv : List (Str × Str)) (a : Atm) : Atm := ⟨a.nm, a.ts.map (pT kv)⟩
theorem in_dD {kv : List (Str × Str)} {s : Str} : cmpD .isin (.str s) (dD kv) = some (look2 kv s).isSome := by
  have e : D.str s :: (kv.map fun p => D.str p.1) = (s :: kv.map (·.1)).map D.str := by simp [List.map_map]
  show (if dkOk (D.str s :: kv.map fun p => D.str p.1) = true then some (hasD (kv.map fun p => D.str p.1) (.str s)) else none) = _
  rw [e, if_pos (dk_strs _)]
  congr 1
  have e2 : (kv.map fun p => D.str p.1) = (kv.map (·.1)).map D.str := by simp [List.map_map]
  rw [e2, Cv.has_str]
  unfold look2
  rw [Option.isSome_map]
  induction kv with
  | nil => rfl
  | cons p kv ih =>
    rw [List.map_cons, List.find?_cons]
    by_cases c : p.1 = s
    · simp [c]
    · have : decide (p.1 = s) = false := decide_eq_false c
      rw [this]
      simp only []
      rw [← ih (by simp [List.map_map]) (by simp [List.map_map])]
      have c2 : ¬ s = p.1 := fun z => c z.symm
      simp [c2]
theorem ix_dD {kv : List (Str × Str)} {s w : Str} (h : look2 kv s = some w) : idxD (dD kv) (.str s) = some (.str w) := by
  have e : D.str s :: (kv.map fun p => D.str p.1) = (s :: kv.map (·.1)).map D.str := by simp [List.map_map]
  show (if dkOk (D.str s :: kv.map fun p => D.str p.1) = true then lkD (kv.map fun p => D.str p.1) (kv.map fun p => D.str p.2) (.str s) else none) = _
  rw [e, if_pos (dk_strs _), lk_str (f := fun p : Str × Str => D.str p.2) (k := fun p : Str × Str => p.1)]
  obtain ⟨p, h1, h2⟩ := Option.map_eq_some_iff.mp h
  rw [h1, ← h2]
  rfl
theorem r_put_in {as : List Atm} {kv : List (Str × Str)} (h : ∀ a ∈ as, D.ty (pA kv a).d tyAt = true) (hl : as.length ≤ 76) : m_put_in [jnD as, dD kv] = M.ret (.tup (ss ((as.map (pA kv)).map Atm.d))) := by
  obtain ⟨en', fo, v3, v4, v5, v6, v7, rfl⟩ := z_forR (ps := as) (f := Atm.d) (a := fun d en1 => M.opt (asg (.tp2 (.nm 3) (.nm 4)) d en1)) (b := fun en1 => sts c_put_in b_put_in_2 en1)
    (fun l en => ∃ v3 v4 v5 v6 v7, en = [.val (jnD as), .val (dD kv), .own (.ol ((l.map (pA kv)).map Atm.d)), v3, v4, v5, v6, v7]) (fun l x r en e he => by
      obtain ⟨v3, v4, v5, v6, v7, rfl⟩ := he
      have hz : l.length < sizeLine := by rw [sizeLine_eq]; have := congrArg List.length e; simp at this; omega
      refine ⟨[.val (jnD as), .val (dD kv), .own (.ol (((l ++ [x]).map (pA kv)).map Atm.d)), .val (.str x.nm), .val (.tup (x.ts.map tmD)), .val (.lst ((x.ts.map (pT kv)).map tmD)), v6, v7], ?_, _, _, _, _, _, rfl⟩
      have hc : lcT (fun _ => M.ret true) (fun a : Str × Str => if a.1 = Str.ofString "any" then M.bnd (M.opt (cmpD Co.isin (D.str a.2) (dD kv))) fun r => if r = true then M.bnd (M.opt (idxD (dD kv) (D.str a.2))) fun a => M.ret (D.tup [D.str (Str.ofString "word"), a]) else M.ret (D.tup [D.str a.1, D.str a.2]) else M.ret (D.tup [D.str a.1, D.str a.2])) x.ts = M.ret ((x.ts.map (pT kv)).map tmD) := by
        rw [List.map_map]
        refine lcT_all _ (fun _ _ => rfl) fun t _ => ?_
        show _ = M.ret (tmD (pT kv t))
        by_cases c : t.1 = Str.ofString "any"
        · rw [if_pos c, in_dD]
          show (if (look2 kv t.2).isSome = true then _ else _ : M D) = _
          cases hk : look2 kv t.2 with
          | some w =>
            rw [ix_dD hk]
            have : pT kv t = (("word" : Str), w) := by unfold pT; rw [if_pos c, hk]
            rw [this]; rfl
          | none =>
            have : pT kv t = t := by unfold pT; rw [if_pos c, hk]
            rw [this]; rfl
        · rw [if_neg c]
          have : pT kv t = t := by unfold pT; rw [if_neg c]
          rw [this]; rfl
      simp (config := { maxSteps := 400000 }) [z_rb, z_bb, z_br, z_os, z_on, z_nb, z_I, z_B, z_O, z_L, z_ib, z_oi, z_lcD, z_lcM, z_lcF, z_lcA, z_lcI, z_catD, z_catM, z_catA, z_catF, -List.map_take, -List.map_drop, -List.length_flatMap, line1, Cv.run, sts, st, ev, evt, evc, evs, evo, evi, startE, asgC, asg2C, asg3C, asg4C, z_ft, setV, slL, Function.comp_def, wipeE, seqD, s_get, s_min, s_max, s_join, s_index, s_disp1, s_new, s_new2, s_bin2, Atm.d, tmD, b_put_in_2, e_put_in_1, appE]
      rw [hc, z_rb, if_pos hz]
      simp [pA, tmD]
      rfl) as [] [.val (jnD as), .val (dD kv), .own (.ol []), .no, .no, .no, .no, .no] rfl ⟨_, _, _, _, _, rfl⟩
  have h3 : ∀ x ∈ (as.map (pA kv)).map Atm.d, D.ty x tyAt = true := fun x hx => by
    obtain ⟨b, hb, rfl⟩ := List.mem_map.mp hx
    obtain ⟨a, ha, rfl⟩ := List.mem_map.mp hb
    exact h a ha
  obtain ⟨e1, e2⟩ := ss_go (r := _) h3 (by decide) (by rw [List.length_map, List.length_map]; exact hl)
  generalize (as.map (pA kv)).map Atm.d = L at fo e1 e2 ⊢
  have hj : jnD as = .tup (as.map Atm.d) := rfl
  rw [hj] at fo ⊢
  simp (config := { maxSteps := 400000 }) [z_rb, z_bb, z_br, z_os, z_on, z_nb, z_I, z_B, z_O, z_L, z_ib, z_oi, z_lcD, z_lcM, z_lcF, z_lcA, z_lcI, z_catD, z_catM, z_catA, z_catF, -List.map_take, -List.map_drop, -List.length_flatMap, line1, Cv.run, sts, st, ev, evt, evc, evs, evo, evi, startE, asgC, asg2C, asg3C, asg4C, z_ft, setV, slL, Function.comp_def, wipeE, seqD, s_get, s_min, s_max, s_join, s_index, s_disp1, s_new, s_new2, s_bin2, m_put_in, N_put_in, b_put_in, fo, frzE, e1, e2]
theorem zip_map {α β : Type} {f : α → D} {g : β → D} : ∀ (xs : List α) (ys : List β), zipD (xs.map f) (ys.map g) = (xs.zip ys).map fun p => .tup [f p.1, g p.2]
  | [], _ => rfl
  | _ :: _, [] => rfl
  | x :: xs, y :: ys => by
    show D.tup [f x, g y] :: zipD (xs.map f) (ys.map g) = _
    rw [zip_map xs ys]
    rfl
theorem disp_one (n w : Str) : disp1D [.str n, .str w] = M.ret (dD [(n, w)]) := rfl
theorem pA_ty {a : Atm} (h : AtOk a) {kv : List (Str × Str)} (hw : ∀ p ∈ kv, W4 p.2) : D.ty (pA kv a).d tyAt = true := by
  have h1 := w4_ty (w4_pool _ h.nm)
  have h2 : D.rw ((a.ts.map (pT kv)).map tmD) (.l 4 tyTm) = true := by
    refine rw_lM (fun p hp => ?_) (by rw [List.length_map]; exact h.len)
    obtain ⟨t, ht, rfl⟩ := List.mem_map.mp hp
    unfold pT
    split
    · split
      · rename_i w hk
        obtain ⟨q, q1, q2⟩ := Option.map_eq_some_iff.mp hk
        have hq := w4_ty (hw q (List.mem_of_find?_eq_some q1))
        show (D.ty (.str "word") (.s 4) && (D.ty (.str w) (.s 8) && true)) = true
        rw [← q2, hq]; decide
      · exact tm_ty (h.tm t ht)
    · exact tm_ty (h.tm t ht)
  show (D.ty (.str a.nm) (.s 8) && (D.rw ((a.ts.map (pT kv)).map tmD) (.l 4 tyTm) && true)) = true
  rw [h1, h2]; rfl
/-- a join with a word put -/
def putJ (kv : List (Str × Str)) (as : List Atm) : D := .tup (ss ((as.map (pA kv)).map Atm.d))
theorem putJ_ty {as : List Atm} {kv : List (Str × Str)} {n : Nat} (h : ∀ a ∈ as, AtOk a) (hl : as.length ≤ n) (hw : ∀ p ∈ kv, W4 p.2) : D.ty (putJ kv as) (.t (.l n tyAt)) = true := by
  refine rw_l (fun x hx => ?_) (Nat.le_trans (ss_len _) (by rw [List.length_map, List.length_map]; exact hl))
  obtain ⟨b, hb, rfl⟩ := List.mem_map.mp (ss_mem hx)
  obtain ⟨a, ha, rfl⟩ := List.mem_map.mp hb
  exact pA_ty (h a ha) hw
def QOk (js : List (List Atm)) : Prop := ∀ j ∈ js, j.length ≤ 4 ∧ ∀ a ∈ j, AtOk a
def putQ (word : Str) (p : List Atm × Str) : D := putJ [(p.2, word)] p.1
theorem putQ_ty {js : List (List Atm)} {ns : List Str} {word : Str} (h : QOk js) (hw : W4 word) : ∀ x ∈ (js.zip ns).map (putQ word), D.ty x (.t (.l 4 tyAt)) = true := fun x hx => by
  obtain ⟨p, hp, rfl⟩ := List.mem_map.mp hx
  have hj := (List.of_mem_zip hp).1
  exact putJ_ty (h _ hj).2 (h _ hj).1 fun q hq => by rw [List.mem_singleton.mp hq]; exact hw
theorem r_put_wordsG {js : List (List Atm)} {ns : List Str} {word : Str} (h : ∀ p ∈ js.zip ns, p.1.length ≤ 76 ∧ ∀ a ∈ p.1, D.ty (pA [(p.2, word)] a).d tyAt = true) (hty : ∀ x ∈ (js.zip ns).map (putQ word), D.ty x (.t (.l 4 tyAt)) = true) (hl : js.length = ns.length) (hz : js.length ≤ 76) : m_put_words [.tup (js.map jnD), .tup (ns.map .str), .str word] = M.ret (.tup (ss ((js.zip ns).map (putQ word)))) := by
  have e0 : c_put_words.fn[0]? = some m_put_in := rfl
  have hlen : ((js.zip ns).map (putQ word)).length ≤ 76 := by rw [List.length_map, List.length_zip]; omega
  obtain ⟨e1, e2⟩ := ss_go (r := _) hty (by decide) hlen
  have hzk : zOk true (js.map jnD) (ns.map D.str) = true := by
    show (false || decide ((js.map jnD).length = (ns.map D.str).length)) = true
    rw [List.length_map, List.length_map, decide_eq_true hl]
    rfl
  have hc : lcT (fun _ => M.ret true) (fun a : List Atm × Str => M.bnd (disp1D [.str a.2, .str word]) fun a_1 => m_put_in [jnD a.1, a_1]) (js.zip ns) = M.ret ((js.zip ns).map (putQ word)) := by
    refine lcT_all _ (fun _ _ => rfl) fun p hp => ?_
    rw [disp_one, z_rb]
    exact r_put_in (h p hp).2 (h p hp).1
  generalize hL : (js.zip ns).map (putQ word) = L at e1 e2 hc ⊢
  simp (config := { maxSteps := 400000 }) [z_rb, z_bb, z_br, z_os, z_on, z_nb, z_I, z_B, z_O, z_L, z_ib, z_oi, z_lcD, z_lcM, z_lcF, z_lcA, z_lcI, z_catD, z_catM, z_catA, z_catF, -List.map_take, -List.map_drop, -List.length_flatMap, line1, Cv.run, sts, st, ev, evt, evc, evs, evo, evi, startE, asgC, asg2C, asg3C, asg4C, z_ft, setV, slL, Function.comp_def, wipeE, seqD, s_get, s_min, s_max, s_join, s_index, s_disp1, s_new, s_new2, s_bin2, m_put_words, N_put_words, b_put_words, e_put_words_1, e0, seqZ, hzk, zip_map]
  rw [hc, z_rb, e1, z_os, z_rb, e2]
  rfl
theorem r_put_words {js : List (List Atm)} {ns : List Str} {word : Str} (h : QOk js) (hw : W4 word) (hl : js.length = ns.length) (hz : js.length ≤ 76) : m_put_words [.tup (js.map jnD), .tup (ns.map .str), .str word] = M.ret (.tup (ss ((js.zip ns).map (putQ word)))) :=
  r_put_wordsG (fun p hp => by
    have hj := (List.of_mem_zip hp).1
    exact ⟨by have := (h _ hj).1; omega, fun a ha => pA_ty ((h _ hj).2 a ha) fun q hq => by rw [List.mem_singleton.mp hq]; exact hw⟩) (putQ_ty h hw) hl hz
/-! ### a putting told as pairs -/
theorem puts_new : ∀ (kv : List (Str × Str)) (ks vs : List Str), (ks ++ kv.map (·.1)).Nodup → ks.length = vs.length →
    putsD (ks.map D.str) (vs.map D.str) (kv.map fun p => .str p.1) (kv.map fun p => .str p.2) = ((ks ++ kv.map (·.1)).map D.str, (vs ++ kv.map (·.2)).map D.str)
  | [], ks, vs, _, _ => by simp [putsD]
  | p :: kv, ks, vs, h, hl => by
    have hn : hasD (ks.map D.str) (.str p.1) = false := by
      rw [Cv.has_str]
      refine decide_eq_false fun hm => ?_
      rw [List.nodup_append] at h
      exact h.2.2 _ hm p.1 (by simp) rfl
    show putsD (putKs (ks.map D.str) (.str p.1)) (putVs (ks.map D.str) (vs.map D.str) (.str p.1) (.str p.2)) (kv.map fun p => .str p.1) (kv.map fun p => .str p.2) = _
    have e1 : putKs (ks.map D.str) (.str p.1) = (ks ++ [p.1]).map D.str := by unfold putKs; rw [hn]; simp
    have e2 : putVs (ks.map D.str) (vs.map D.str) (.str p.1) (.str p.2) = (vs ++ [p.2]).map D.str := by unfold putVs; rw [hn]; simp
    rw [e1, e2, puts_new kv (ks ++ [p.1]) (vs ++ [p.2]) (by simpa using h) (by simp [hl])]
    simp
theorem pairs_tm : ∀ kv : List (Str × Str), pairsD (kv.map tmD) = some (kv.map (fun p => D.str p.1), kv.map (fun p => D.str p.2))
  | [] => rfl
  | p :: kv => by
    show (pairsD (kv.map tmD)).map (fun q : List D × List D => (D.str p.1 :: q.1, D.str p.2 :: q.2)) = _
    rw [pairs_tm kv]
    rfl
theorem mk_kv {kv : List (Str × Str)} (h : (kv.map (·.1)).Nodup) : (pairsD (kv.map tmD)).bind (fun p => mkD p.1 p.2) = some (dD kv) := by
  rw [pairs_tm]
  show mkD (kv.map fun p => .str p.1) (kv.map fun p => .str p.2) = _
  unfold mkD
  have e : (kv.map fun p => D.str p.1) = (kv.map (·.1)).map D.str := by rw [List.map_map]; rfl
  have hp := puts_new kv [] [] (by simpa using h) rfl
  rw [if_pos (by rw [e]; exact dk_strs _)]
  have hp : putsD [] [] (kv.map fun p => D.str p.1) (kv.map fun p => D.str p.2) = (([] ++ kv.map (fun p : Str × Str => p.1)).map D.str, ([] ++ kv.map (fun p : Str × Str => p.2)).map D.str) := hp
  rw [hp, List.nil_append, List.nil_append, List.map_map, List.map_map]
  rfl
theorem dict_kvT {kv : List (Str × Str)} (h : (kv.map (·.1)).Nodup) : b1D .dict (.tup (kv.map tmD)) = some (dD kv) := mk_kv h
theorem dict_kvL {kv : List (Str × Str)} (h : (kv.map (·.1)).Nodup) : b1D .dict (.lst (kv.map tmD)) = some (dD kv) := mk_kv h
/-- an assignment's order does not count -/
theorem look_perm {kv kw : List (Str × Str)} (p : kv.Perm kw) (h : (kv.map (·.1)).Nodup) (s : Str) : look2 kv s = look2 kw s := by
  have key : ∀ {l : List (Str × Str)} {w : Str}, (l.map (·.1)).Nodup → (look2 l s = some w ↔ (s, w) ∈ l) := by
    intro l w hn
    unfold look2
    induction l with
    | nil => simp
    | cons a l ih =>
      rw [List.map_cons, List.nodup_cons] at hn
      rw [List.find?_cons]
      by_cases c : a.1 = s
      · rw [decide_eq_true c]
        simp only [Option.map_some, Option.some.injEq, List.mem_cons]
        constructor
        · intro e; left; rw [← c, ← e]
        · rintro (e | e)
          · rw [← e]
          · exfalso
            exact hn.1 (by rw [c]; exact List.mem_map_of_mem (f := fun x : Str × Str => x.1) e)
      · rw [decide_eq_false c]
        simp only [List.mem_cons]
        rw [ih hn.2]
        constructor
        · intro e; right; exact e
        · rintro (e | e)
          · exact absurd (by rw [← e]) c
          · exact e
  have hn2 : (kw.map (·.1)).Nodup := (p.map _).nodup_iff.mp h
  cases e : look2 kw s with
  | some w => exact (key h).mpr (p.mem_iff.mpr ((key hn2).mp e))
  | none =>
    cases e2 : look2 kv s with
    | none => rfl
    | some w =>
      have := (key hn2).mpr (p.mem_iff.mp ((key h).mp e2))
      rw [e] at this; cases this
/-! ### words alone -/
def wA (x : Str × List Str) : D := .tup [.str x.1, .tup (x.2.map fun u => tmD ("word", u))]
def pF (x : Str × List Str) : D := .tup [.str x.1, .tup (x.2.map D.str)]
theorem wp_lex : ∀ (us vs : List Str) (l m : List (Int ⊕ List Nat)), PyProof.Rows.lexLt PyProof.Rows.itemOrd (PySem.W.keyToksAll (D.pys (us.map fun u => tmD ("word", u))) ++ l) (PySem.W.keyToksAll (D.pys (vs.map fun u => tmD ("word", u))) ++ m) =
    PyProof.Rows.lexLt PyProof.Rows.itemOrd (PySem.W.keyToksAll (D.pys (us.map D.str)) ++ l) (PySem.W.keyToksAll (D.pys (vs.map D.str)) ++ m)
  | [], [], _, _ => rfl
  | [], _ :: _, _, _ => rfl
  | _ :: _, [], _, _ => rfl
  | u :: us, v :: vs, l, m => by
    have e1 : ∀ (u : Str) (us : List Str), PySem.W.keyToksAll (D.pys ((u :: us).map fun u => tmD ("word", u))) = [.inl 1, .inl 1, .inr (Str.ofString "word").cps.toList, .inl 1] ++ (.inr u.cps.toList :: .inl 0 :: PySem.W.keyToksAll (D.pys (us.map fun u => tmD ("word", u)))) := fun u us => rfl
    have e2 : ∀ (u : Str) (us : List Str), PySem.W.keyToksAll (D.pys ((u :: us).map D.str)) = [.inl 1] ++ (.inr u.cps.toList :: PySem.W.keyToksAll (D.pys (us.map D.str))) := fun u us => rfl
    rw [e1, e1, e2, e2, List.append_assoc, List.append_assoc, List.append_assoc, List.append_assoc, PySem.W.lex_pre, PySem.W.lex_pre]
    by_cases c : u = v
    · subst c
      have ih := wp_lex us vs l m
      show PyProof.Rows.lexLt PyProof.Rows.itemOrd ([.inr u.cps.toList, .inl 0] ++ (_ ++ l)) ([.inr u.cps.toList, .inl 0] ++ (_ ++ m)) = PyProof.Rows.lexLt PyProof.Rows.itemOrd ([.inr u.cps.toList] ++ (_ ++ l)) ([.inr u.cps.toList] ++ (_ ++ m))
      rw [PySem.W.lex_pre, PySem.W.lex_pre]
      exact ih
    · have hne : (Sum.inr u.cps.toList : Int ⊕ List Nat) ≠ Sum.inr v.cps.toList := fun z => c (PySem.W.str_of_cps (Sum.inr.inj z))
      exact (PySem.W.lex_atom hne _ _).trans (PySem.W.lex_atom hne _ _).symm
theorem wp_le (x y : Str × List Str) : leD (wA x) (wA y) = leD (pF x) (pF y) := by
  have e1 : ∀ x : Str × List Str, PySem.W.keyToks (wA x).py = [.inl 1] ++ (.inr x.1.cps.toList :: .inl 1 :: (PySem.W.keyToksAll (D.pys (x.2.map fun u => tmD ("word", u))) ++ [.inl 0])) := fun x => rfl
  have e2 : ∀ x : Str × List Str, PySem.W.keyToks (pF x).py = [.inl 1] ++ (.inr x.1.cps.toList :: .inl 1 :: (PySem.W.keyToksAll (D.pys (x.2.map D.str)) ++ [.inl 0])) := fun x => rfl
  show (!PyProof.Rows.lexLt PyProof.Rows.itemOrd (PySem.W.keyToks (wA y).py) (PySem.W.keyToks (wA x).py)) = !PyProof.Rows.lexLt PyProof.Rows.itemOrd (PySem.W.keyToks (pF y).py) (PySem.W.keyToks (pF x).py)
  rw [e1, e1, e2, e2, PySem.W.lex_pre, PySem.W.lex_pre]
  congr 1
  by_cases c : y.1 = x.1
  · rw [c]
    show PyProof.Rows.lexLt PyProof.Rows.itemOrd ([.inr x.1.cps.toList, .inl 1] ++ _) ([.inr x.1.cps.toList, .inl 1] ++ _) = PyProof.Rows.lexLt PyProof.Rows.itemOrd ([.inr x.1.cps.toList, .inl 1] ++ _) ([.inr x.1.cps.toList, .inl 1] ++ _)
    rw [PySem.W.lex_pre, PySem.W.lex_pre]
    exact wp_lex _ _ _ _
  · have hne : (Sum.inr y.1.cps.toList : Int ⊕ List Nat) ≠ Sum.inr x.1.cps.toList := fun z => c (PySem.W.str_of_cps (Sum.inr.inj z))
    exact (PySem.W.lex_atom hne _ _).trans (PySem.W.lex_atom hne _ _).symm
theorem strs_inj : ∀ {us vs : List Str}, us.map D.str = vs.map D.str → us = vs
  | [], [], _ => rfl
  | [], _ :: _, h => nomatch h
  | _ :: _, [], h => nomatch h
  | u :: us, v :: vs, h => by
    simp only [List.map_cons, List.cons.injEq, D.str.injEq] at h
    rw [h.1, strs_inj h.2]
theorem tms_inj : ∀ {us vs : List Str}, (us.map fun u => tmD ("word", u)) = (vs.map fun u => tmD ("word", u)) → us = vs
  | [], [], _ => rfl
  | [], _ :: _, h => nomatch h
  | _ :: _, [], h => nomatch h
  | u :: us, v :: vs, h => by
    simp only [List.map_cons, List.cons.injEq, tmD, D.tup.injEq, D.str.injEq] at h
    rw [h.1.2.1, tms_inj h.2]
theorem wA_inj {x y : Str × List Str} (h : wA x = wA y) : x = y := by
  obtain ⟨a, b⟩ := x
  obtain ⟨c, d⟩ := y
  simp only [wA, D.tup.injEq, List.cons.injEq, D.str.injEq] at h
  obtain ⟨h1, h2, _⟩ := h
  rw [h1, tms_inj h2]
theorem pF_inj {x y : Str × List Str} (h : pF x = pF y) : x = y := by
  obtain ⟨a, b⟩ := x
  obtain ⟨c, d⟩ := y
  simp only [pF, D.tup.injEq, List.cons.injEq, D.str.injEq] at h
  obtain ⟨h1, h2, _⟩ := h
  rw [h1, strs_inj h2]
def tyFt : Ty := .t (.c (.s 8) (.c (.t (.l 4 (.s 8))) .n))
structure FtOk (x : Str × List Str) : Prop where
  nm : W4 x.1
  len : x.2.length ≤ 4
  ws : ∀ u ∈ x.2, W4 u
theorem ft_ty {x : Str × List Str} (h : FtOk x) : D.ty (pF x) tyFt = true := by
  have h1 := w4_ty h.nm
  have h2 : D.rw (x.2.map D.str) (.l 4 (.s 8)) = true := rw_lM (fun u hu => w4_ty (h.ws u hu)) h.len
  show (D.ty (.str x.1) (.s 8) && (D.rw (x.2.map D.str) (.l 4 (.s 8)) && true)) = true
  rw [h1, h2]; rfl
theorem fw_ty {x : Str × List Str} (h : FtOk x) : D.ty (wA x) tyAt = true := by
  have h1 := w4_ty h.nm
  have h2 : D.rw (x.2.map fun u => tmD ("word", u)) (.l 4 tyTm) = true := rw_lM (fun u hu => by
    have := w4_ty (h.ws u hu)
    show (D.ty (.str "word") (.s 4) && (D.ty (.str u) (.s 8) && true)) = true
    rw [this]; decide) h.len
  show (D.ty (.str x.1) (.s 8) && (D.rw (x.2.map fun u => tmD ("word", u)) (.l 4 tyTm) && true)) = true
  rw [h1, h2]; rfl
theorem ss_wp {xs : List (Str × List Str)} (h : ∀ x ∈ xs, FtOk x) : ssBy wA xs = ssBy pF xs :=
  ssBy_eq (fun x hx y hy => by
    rw [nk_eq (fw_ty (h x hx)) (fw_ty (h y hy)), nk_eq (ft_ty (h x hx)) (ft_ty (h y hy))]
    exact ⟨fun e => by rw [wA_inj e], fun e => by rw [pF_inj e]⟩) fun x _ y _ => wp_le x y
/-- what a term comes to -/
def tV (kv : List (Str × Str)) (t : Str × Str) : Str := if t.1 = "any" then (look2 kv t.2).getD t.2 else t.2
def aV (kv : List (Str × Str)) (a : Atm) : Str × List Str := (a.nm, a.ts.map (tV kv))
/-- all variables of it are put -/
def AllIn (kv : List (Str × Str)) (as : List Atm) : Prop := ∀ a ∈ as, ∀ t ∈ a.ts, t.1 = "any" → (look2 kv t.2).isSome = true
theorem pA_wA {kv : List (Str × Str)} {a : Atm} (h : ∀ t ∈ a.ts, t.1 = "word" ∨ t.1 = "any") (ha : ∀ t ∈ a.ts, t.1 = "any" → (look2 kv t.2).isSome = true) : (pA kv a).d = wA (aV kv a) := by
  show D.tup [.str a.nm, .tup ((a.ts.map (pT kv)).map tmD)] = D.tup [.str a.nm, .tup ((a.ts.map (tV kv)).map fun u => tmD ("word", u))]
  have : (a.ts.map (pT kv)).map tmD = (a.ts.map (tV kv)).map fun u => tmD ("word", u) := by
    rw [List.map_map, List.map_map]
    refine List.map_congr_left fun t ht => ?_
    show tmD (pT kv t) = tmD ("word", tV kv t)
    unfold pT tV
    by_cases c : t.1 = "any"
    · rw [if_pos c, if_pos c]
      obtain ⟨w, hw⟩ := Option.isSome_iff_exists.mp (ha t ht c)
      rw [hw]; rfl
    · rw [if_neg c, if_neg c]
      rcases h t ht with e | e
      · obtain ⟨t1, t2⟩ := t
        have e : t1 = "word" := e
        rw [e]
      · exact absurd e c
  rw [this]
theorem aV_ok {kv : List (Str × Str)} (hw : ∀ p ∈ kv, W4 p.2) {a : Atm} (h : AtOk a) : FtOk (aV kv a) := by
  refine ⟨w4_pool _ h.nm, by show (a.ts.map _).length ≤ 4; rw [List.length_map]; exact h.len, fun u hu => ?_⟩
  obtain ⟨t, ht, rfl⟩ := List.mem_map.mp hu
  unfold tV
  have hb : W4 t.2 := by
    rcases h.tm t ht with ⟨_, e⟩ | ⟨_, e⟩
    · exact w4_words 4 _ (by simpa [wordsA] using e)
    · simp only [List.mem_cons, List.not_mem_nil, or_false] at e
      rcases e with e | e | e <;> (rw [e]; exact ⟨by decide, by decide⟩)
  split
  · cases hk : look2 kv t.2 with
    | none => exact hb
    | some w =>
      obtain ⟨q, q1, q2⟩ := Option.map_eq_some_iff.mp hk
      rw [← q2]
      exact hw q (List.mem_of_find?_eq_some q1)
  · exact hb
/-- the facts of a putting -/
def ftsD (kv : List (Str × Str)) (as : List Atm) : D := .tup (ss ((as.map (aV kv)).map pF))
theorem r_facts_byG {as : List Atm} {kv : List (Str × Str)} (h1 : ∀ a ∈ as, D.ty (pA kv a).d tyAt = true) (h2 : ∀ a ∈ as, ∀ t ∈ a.ts, t.1 = "word" ∨ t.1 = "any") (h3 : ∀ a ∈ as, FtOk (aV kv a)) (hl : as.length ≤ 76) (hn : (kv.map (·.1)).Nodup) (ha : AllIn kv as) : m_facts_by [jnD as, .tup (kv.map tmD)] = M.ret (ftsD kv as) := by
  have e0 : c_facts_by.fn[0]? = some m_put_in := rfl
  have ep := r_put_in (as := as) (kv := kv) h1 hl
  have em : (as.map (pA kv)).map Atm.d = (as.map (aV kv)).map wA := by
    rw [List.map_map, List.map_map]
    exact List.map_congr_left fun a hm => pA_wA (h2 a hm) (ha a hm)
  have hf : ∀ x ∈ as.map (aV kv), FtOk x := fun x hx => by
    obtain ⟨a, hm, rfl⟩ := List.mem_map.mp hx
    exact h3 a hm
  rw [em, ss_map, ss_wp hf] at ep
  have hd := dict_kvT hn
  generalize hX : ssBy pF (as.map (aV kv)) = X at ep
  have hfin : ftsD kv as = .tup (X.map pF) := by
    unfold ftsD
    rw [ss_map, hX]
  generalize jnD as = J at ep ⊢
  simp (config := { maxSteps := 400000 }) [z_rb, z_bb, z_br, z_os, z_on, z_nb, z_I, z_B, z_O, z_L, z_ib, z_oi, z_lcD, z_lcM, z_lcF, z_lcA, z_lcI, z_catD, z_catM, z_catA, z_catF, -List.map_take, -List.map_drop, -List.length_flatMap, line1, Cv.run, sts, st, ev, evt, evc, evs, evo, evi, startE, asgC, asg2C, asg3C, asg4C, z_ft, setV, slL, Function.comp_def, wipeE, seqD, s_get, s_min, s_max, s_join, s_index, s_disp1, s_new, s_new2, s_bin2, m_facts_by, N_facts_by, b_facts_by, hd, e0, e_facts_by_2, e_facts_by_1, ep, wA, tmD]
  rw [hfin]
  rfl
theorem r_facts_by {as : List Atm} {kv : List (Str × Str)} (h : ∀ a ∈ as, AtOk a) (hl : as.length ≤ 4) (hw : ∀ p ∈ kv, W4 p.2) (hn : (kv.map (·.1)).Nodup) (ha : AllIn kv as) : m_facts_by [jnD as, .tup (kv.map tmD)] = M.ret (ftsD kv as) :=
  r_facts_byG (fun a hm => pA_ty (h a hm) hw) (fun a hm t ht => ((h a hm).tm t ht).imp (·.1) (·.1)) (fun a hm => aV_ok hw (h a hm)) (by omega) hn ha
end Cv

/-! k13: words put for variables. -/
namespace liftedworlds_k13_put
open PySem Cv
theorem tk_eq : m_w_take = tk_m := rfl
theorem ba_eq : m_w_base = Cv.m_w_base := rfl
theorem jo_eq : m_w_join = Cv.m_w_join := rfl
theorem pw_eq : m_put_words = Cv.m_put_words := rfl
theorem fb_eq : m_facts_by = Cv.m_facts_by := rfl
theorem tm_eq {t u : Str × Str} (h1 : shp (tmD t) = true) (h2 : shp (tmD u) = true) : cmpD .eq (tmD t) (tmD u) = some (t.1 == u.1 && (t.2 == u.2 && true)) := by
  show (if shp (tmD t) && shp (tmD u) then some (PyData.eqv (tmD t).py (tmD u).py) else none) = _
  rw [h1, h2]
  rfl
theorem r_put {as : List Atm} {name word : Str} (h : ∀ a ∈ as, AtOk a) (hl : as.length ≤ 76) (hw : W4 word) (hn : shp (tmD ("any", name)) = true) : m_w_put [jnD as, .str name, .str word] = M.ret (putJ [(name, word)] as) := by
  obtain ⟨en', fo, v4, v5, v6, rfl⟩ := z_forR (ps := as) (f := Atm.d) (a := fun d en1 => M.opt (asg (.tp2 (.nm 4) (.nm 5)) d en1)) (b := fun en1 => sts c_w_put b_w_put_2 en1)
    (fun l en => ∃ v4 v5 v6, en = [.val (jnD as), .val (.str name), .val (.str word), .own (.ol ((l.map (pA [(name, word)])).map Atm.d)), v4, v5, v6]) (fun l x r en e he => by
      obtain ⟨v4, v5, v6, rfl⟩ := he
      have hz : l.length < sizeLine := by rw [sizeLine_eq]; have := congrArg List.length e; simp at this; omega
      refine ⟨[.val (jnD as), .val (.str name), .val (.str word), .own (.ol (((l ++ [x]).map (pA [(name, word)])).map Atm.d)), .val (.str x.nm), .val (.tup (x.ts.map tmD)), v6], ?_, _, _, _, rfl⟩
      have hx : AtOk x := h x (by rw [e]; simp)
      have hc : lcT (fun _ => M.ret true) (fun a : Str × Str => M.bnd (M.opt (cmpD Co.eq (tmD a) (D.tup [D.str (Str.ofString "any"), D.str name]))) fun r => if r = true then M.ret (D.tup [D.str (Str.ofString "word"), D.str word]) else M.ret (tmD a)) x.ts = M.ret ((x.ts.map (pT [(name, word)])).map tmD) := by
        rw [List.map_map]
        refine lcT_all _ (fun _ _ => rfl) fun t ht => ?_
        show _ = M.ret (tmD (pT [(name, word)] t))
        have e1 := tm_eq (t := t) (u := ("any", name)) (ty_shp (tm_ty (hx.tm t ht)) (by decide) (by decide)) hn
        have e1 : cmpD Co.eq (tmD t) (D.tup [D.str (Str.ofString "any"), D.str name]) = _ := e1
        rw [e1, z_os, z_rb]
        unfold pT look2
        obtain ⟨t1, t2⟩ := t
        by_cases c1 : t1 = Str.ofString "any"
        · subst c1
          by_cases c2 : t2 = name
          · subst c2
            simp
            rfl
          · have c3 : ¬ name = t2 := fun z => c2 z.symm
            simp [c2, c3]
        · simp [c1]
      simp (config := { maxSteps := 400000 }) [z_rb, z_bb, z_br, z_os, z_on, z_nb, z_I, z_B, z_O, z_L, z_ib, z_oi, z_lcD, z_lcM, z_lcF, z_lcA, z_lcI, z_catD, z_catM, z_catA, z_catF, -List.map_take, -List.map_drop, -List.length_flatMap, line1, Cv.run, sts, st, ev, evt, evc, evs, evo, evi, startE, asgC, asg2C, asg3C, asg4C, z_ft, setV, slL, Function.comp_def, wipeE, seqD, s_get, s_min, s_max, s_join, s_index, s_disp1, s_new, s_new2, s_bin2, Atm.d, b_w_put_2, e_w_put_1, appE]
      rw [hc, z_rb, if_pos hz]
      simp [pA, tmD]
      done) as [] [.val (jnD as), .val (.str name), .val (.str word), .own (.ol []), .no, .no, .no] rfl ⟨_, _, _, rfl⟩
  have h3 : ∀ x ∈ (as.map (pA [(name, word)])).map Atm.d, D.ty x tyAt = true := fun x hx => by
    obtain ⟨b, hb, rfl⟩ := List.mem_map.mp hx
    obtain ⟨a, ha, rfl⟩ := List.mem_map.mp hb
    exact pA_ty (h a ha) fun p hp => by rw [List.mem_singleton.mp hp]; exact hw
  obtain ⟨e1, e2⟩ := ss_go (r := _) h3 (by decide) (by rw [List.length_map, List.length_map]; exact hl)
  unfold putJ
  generalize (as.map (pA [(name, word)])).map Atm.d = L at fo e1 e2 ⊢
  have hj : jnD as = .tup (as.map Atm.d) := rfl
  rw [hj] at fo ⊢
  simp (config := { maxSteps := 400000 }) [z_rb, z_bb, z_br, z_os, z_on, z_nb, z_I, z_B, z_O, z_L, z_ib, z_oi, z_lcD, z_lcM, z_lcF, z_lcA, z_lcI, z_catD, z_catM, z_catA, z_catF, -List.map_take, -List.map_drop, -List.length_flatMap, line1, Cv.run, sts, st, ev, evt, evc, evs, evo, evi, startE, asgC, asg2C, asg3C, asg4C, z_ft, setV, slL, Function.comp_def, wipeE, seqD, s_get, s_min, s_max, s_join, s_index, s_disp1, s_new, s_new2, s_bin2, m_w_put, N_w_put, b_w_put, fo, frzE, e1, e2]
/-! ### the variables -/
def isV (t : Str × Str) : Bool := t.1 == Str.ofString "any"
def vrs (as : List Atm) : List Str := as.flatMap fun a => (a.ts.filter isV).map (·.2)
theorem vrs_len : ∀ l : List Atm, (∀ a ∈ l, AtOk a) → (vrs l).length ≤ 4 * l.length := by
  intro l
  induction l with
  | nil => intro _; exact Nat.le_refl _
  | cons a l ih =>
    intro hq
    have := ih fun b hb => hq b (List.mem_cons_of_mem _ hb)
    have h4 := (hq a List.mem_cons_self).len
    have hf := List.length_filter_le isV a.ts
    unfold vrs at this ⊢
    rw [List.flatMap_cons, List.length_append, List.length_map, List.length_cons]
    omega
theorem vrs_mem {as : List Atm} (h : ∀ a ∈ as, AtOk a) {u : Str} (hu : u ∈ vrs as) : u ∈ (["x", "y", "z"] : List Str) := by
  obtain ⟨a, ha, hu⟩ := List.mem_flatMap.mp hu
  obtain ⟨t, ht, rfl⟩ := List.mem_map.mp hu
  obtain ⟨ht, hv⟩ := List.mem_filter.mp ht
  have hv : t.1 = Str.ofString "any" := eq_of_beq hv
  rcases (h a ha).tm t ht with ⟨e, _⟩ | ⟨_, e⟩
  · rw [hv] at e
    exact absurd e (by decide)
  · exact e
theorem r_variables {as : List Atm} (h : ∀ a ∈ as, AtOk a) (hl : as.length ≤ 4) : m_w_variables [jnD as] = M.ret (.lst ((ssBy D.str (vrs as)).map D.str)) := by
  have lens : ∀ l : List Atm, (∀ a ∈ l, AtOk a) → (vrs l).length ≤ 4 * l.length := by
    intro l
    induction l with
    | nil => intro _; exact Nat.le_refl _
    | cons a l ih =>
      intro hq
      have := ih fun b hb => hq b (List.mem_cons_of_mem _ hb)
      have h4 := (hq a List.mem_cons_self).len
      have hf := List.length_filter_le isV a.ts
      unfold vrs at this ⊢
      rw [List.flatMap_cons, List.length_append, List.length_map, List.length_cons]
      omega
  obtain ⟨en', fo, v2, v3, v4, rfl⟩ := z_forR (ps := as) (f := Atm.d) (a := fun d en1 => M.opt (asg (.tp2 (.nm 2) (.nm 3)) d en1)) (b := fun en1 => sts c_w_variables b_w_variables_2 en1)
    (fun l en => ∃ v2 v3 v4, en = [.val (jnD as), .own (.ol ((vrs l).map D.str)), v2, v3, v4]) (fun l x r en e he => by
      obtain ⟨v2, v3, v4, rfl⟩ := he
      have hx : AtOk x := h x (by rw [e]; simp)
      have hl1 : ∀ a ∈ l, AtOk a := fun a ha => h a (by rw [e]; simp [ha])
      have hll : l.length < 4 := by have := congrArg List.length e; simp at this; omega
      have hq := lens l hl1
      have hf := List.length_filter_le isV x.ts
      have h4 := hx.len
      refine ⟨[.val (jnD as), .own (.ol ((vrs (l ++ [x])).map D.str)), .val (.str x.nm), .val (.tup (x.ts.map tmD)), v4], ?_, _, _, _, rfl⟩
      simp (config := { maxSteps := 400000 }) [z_rb, z_bb, z_br, z_os, z_on, z_nb, z_I, z_B, z_O, z_L, z_ib, z_oi, z_lcD, z_lcM, z_lcF, z_lcA, z_lcI, z_catD, z_catM, z_catA, z_catF, -List.map_take, -List.map_drop, -List.length_flatMap, line1, Cv.run, sts, st, ev, evt, evc, evs, evo, evi, startE, asgC, asg2C, asg3C, asg4C, z_ft, setV, slL, Function.comp_def, wipeE, seqD, s_get, s_min, s_max, s_join, s_index, s_disp1, s_new, s_new2, s_bin2, Atm.d, tmD, b_w_variables_2, e_w_variables_1, extE]
      have hq2 : (vrs l).length + (x.ts.filter isV).length ≤ sizeLine := by rw [sizeLine_eq]; omega
      refine (if_pos hq2).trans ?_
      have ev : vrs (l ++ [x]) = vrs l ++ (x.ts.filter isV).map (·.2) := by unfold vrs; rw [List.flatMap_append]; simp
      rw [ev, List.map_append, List.map_map]
      rfl) as [] [.val (jnD as), .own (.ol []), .no, .no, .no] rfl ⟨_, _, _, rfl⟩
  have hq := lens as h
  have e1 := str_set (xs := vrs as) (by show _ ≤ 3999; omega)
  have h3 : ∀ x ∈ dedD ((vrs as).map D.str), D.ty x (.s 8) = true := fun x hx => by
    obtain ⟨u, hu, rfl⟩ := List.mem_map.mp (ded_mem hx)
    obtain ⟨a, ha, hu⟩ := List.mem_flatMap.mp hu
    obtain ⟨t, ht, rfl⟩ := List.mem_map.mp hu
    have := tm_ty ((h a ha).tm t (List.mem_filter.mp ht).1)
    have this : (D.ty (.str t.1) (.s 4) && (D.ty (.str t.2) (.s 8) && true)) = true := this
    simp only [Bool.and_eq_true] at this
    exact this.2.1
  have e2 := ty_srt h3 (by decide) (by have := ded_len ((vrs as).map D.str); rw [List.length_map] at this; omega)
  have e1 : b1D .set (.lst ((vrs as).map D.str)) = some (.set (dedD ((vrs as).map D.str))) := by show (setD _).map D.set = _; rw [e1]; rfl
  have e2 : b1D .sorted (.set (dedD ((vrs as).map D.str))) = some (.lst ((ssBy D.str (vrs as)).map D.str)) := by
    show (srtD _).map D.lst = _
    rw [e2, ← ss_map]; rfl
  generalize (vrs as).map D.str = L at fo e1 e2
  have hj : jnD as = .tup (as.map Atm.d) := rfl
  rw [hj] at fo ⊢
  simp (config := { maxSteps := 400000 }) [z_rb, z_bb, z_br, z_os, z_on, z_nb, z_I, z_B, z_O, z_L, z_ib, z_oi, z_lcD, z_lcM, z_lcF, z_lcA, z_lcI, z_catD, z_catM, z_catA, z_catF, -List.map_take, -List.map_drop, -List.length_flatMap, line1, Cv.run, sts, st, ev, evt, evc, evs, evo, evi, startE, asgC, asg2C, asg3C, asg4C, z_ft, setV, slL, Function.comp_def, wipeE, seqD, s_get, s_min, s_max, s_join, s_index, s_disp1, s_new, s_new2, s_bin2, m_w_variables, N_w_variables, b_w_variables, fo, frzE, e1, e2]
/-! ### the facts by the law's own look -/
theorem r_come {as : List Atm} {kv : List (Str × Str)} (h : ∀ a ∈ as, AtOk a) (hl : as.length ≤ 4) (ha : AllIn kv as) : m_w_come [jnD as, dD kv] = M.ret (.lst ((as.map (aV kv)).map pF)) := by
  obtain ⟨en', fo, v3, v4, v5, rfl⟩ := z_forR (ps := as) (f := Atm.d) (a := fun d en1 => M.opt (asg (.tp2 (.nm 3) (.nm 4)) d en1)) (b := fun en1 => sts c_w_come b_w_come_2 en1)
    (fun l en => ∃ v3 v4 v5, en = [.val (jnD as), .val (dD kv), .own (.ol ((l.map (aV kv)).map pF)), v3, v4, v5]) (fun l x r en e he => by
      obtain ⟨v3, v4, v5, rfl⟩ := he
      have hx : x ∈ as := by rw [e]; simp
      have hz : l.length < sizeLine := by rw [sizeLine_eq]; have := congrArg List.length e; simp at this; omega
      refine ⟨[.val (jnD as), .val (dD kv), .own (.ol (((l ++ [x]).map (aV kv)).map pF)), .val (.str x.nm), .val (.tup (x.ts.map tmD)), v5], ?_, _, _, _, rfl⟩
      have hc : lcT (fun _ => M.ret true) (fun a : Str × Str => if a.1 = Str.ofString "any" then M.opt (idxD (dD kv) (D.str a.2)) else M.ret (D.str a.2)) x.ts = M.ret ((x.ts.map (tV kv)).map D.str) := by
        rw [List.map_map]
        refine lcT_all _ (fun _ _ => rfl) fun t ht => ?_
        show _ = M.ret (D.str (tV kv t))
        unfold tV
        by_cases c : t.1 = Str.ofString "any"
        · rw [if_pos c, if_pos c]
          obtain ⟨w, hw⟩ := Option.isSome_iff_exists.mp (ha x hx t ht c)
          rw [ix_dD hw, hw]; rfl
        · rw [if_neg c, if_neg c]
      simp (config := { maxSteps := 400000 }) [z_rb, z_bb, z_br, z_os, z_on, z_nb, z_I, z_B, z_O, z_L, z_ib, z_oi, z_lcD, z_lcM, z_lcF, z_lcA, z_lcI, z_catD, z_catM, z_catA, z_catF, -List.map_take, -List.map_drop, -List.length_flatMap, line1, Cv.run, sts, st, ev, evt, evc, evs, evo, evi, startE, asgC, asg2C, asg3C, asg4C, z_ft, setV, slL, Function.comp_def, wipeE, seqD, s_get, s_min, s_max, s_join, s_index, s_disp1, s_new, s_new2, s_bin2, Atm.d, tmD, b_w_come_2, e_w_come_1, appE]
      rw [hc, z_rb, if_pos hz]
      rfl) as [] [.val (jnD as), .val (dD kv), .own (.ol []), .no, .no, .no] rfl ⟨_, _, _, rfl⟩
  generalize (as.map (aV kv)).map pF = L at fo ⊢
  have hj : jnD as = .tup (as.map Atm.d) := rfl
  rw [hj] at fo ⊢
  simp (config := { maxSteps := 400000 }) [z_rb, z_bb, z_br, z_os, z_on, z_nb, z_I, z_B, z_O, z_L, z_ib, z_oi, z_lcD, z_lcM, z_lcF, z_lcA, z_lcI, z_catD, z_catM, z_catA, z_catF, -List.map_take, -List.map_drop, -List.length_flatMap, line1, Cv.run, sts, st, ev, evt, evc, evs, evo, evi, startE, asgC, asg2C, asg3C, asg4C, z_ft, setV, slL, Function.comp_def, wipeE, seqD, s_get, s_min, s_max, s_join, s_index, s_disp1, s_new, s_new2, s_bin2, m_w_come, N_w_come, b_w_come, fo, frzE]
theorem r_tap {ns : List Int} : ∃ cs, m_w_tap [.lst (ns.map D.int)] [] = some (.obj 0, [.fl (tap cs 0 0 0)]) := by
  refine ⟨cutD ns none (some 63), ?_⟩
  have e : cutD (ns.map D.int) none (some 63) = (cutD ns none (some 63)).map D.int := by
    unfold cutD
    rw [List.length_map, List.map_take, List.map_drop]
  have e2 : sliD (.lst (ns.map D.int)) none (some 63) = some (.lst (cutD (ns.map D.int) none (some 63))) := rfl
  simp [m_w_tap, Cv.run, b_w_tap, N_w_tap, sts, st, ev, evs, evo, startE, e2, e, zipKs, newO, tap]
/-- the frame of the law -/
def laE (ns : List Int) (ts : List Tb) (x3 x4 x5 x6 x7 x8 x9 x10 x11 x12 x13 x14 x15 x16 : Sl) : En := [.val (.lst (ns.map D.int)), .val (.obj 0), .val (bsD ts), x3, x4, x5, x6, x7, x8, x9, x10, x11, x12, x13, x14, x15, x16]
def LaI (ns : List Int) (ts : List Tb) (_ : Nat) (en : En) : Prop := ∃ x3 x4 x5 x6 x7 x8 x9 x10 x11 x12 x13 x14, en = laE ns ts x3 x4 x5 x6 x7 x8 x9 x10 x11 x12 x13 x14 .no .no
/-- .. behind the question -/
structure Qn where
  js : List (List Atm)
  ns : List Str
  word : Str
structure QnOk (q : Qn) : Prop where
  ok : QOk q.js
  len : q.js.length ≤ 4
  nl : q.ns.length = q.js.length
  nm : ∀ n ∈ q.ns, n ∈ (["x", "y", "z", "q"] : List Str)
  w : W4 q.word
def qnD (q : Qn) : D := .tup [.tup (q.js.map jnD), .tup (q.ns.map D.str)]
theorem qn_ty {q : Qn} (h : QnOk q) : D.ty (qnD q) (.t (.c (.t (.l 4 (.t (.l 4 tyAt)))) (.c (.t (.l 4 (.s 8))) .n))) = true := by
  have h1 : D.rw (q.js.map jnD) (.l 4 (.t (.l 4 tyAt))) = true := rw_lM (fun j hj => (show D.ty (jnD j) (.t (.l 4 tyAt)) = true from rw_lM (f := Atm.d) (fun a ha => at_ty ((h.ok j hj).2 a ha)) (h.ok j hj).1)) h.len
  have h2 : D.rw (q.ns.map D.str) (.l 4 (.s 8)) = true := rw_lM (fun n hn => w4_ty (by
    have := h.nm n hn
    simp only [List.mem_cons, List.not_mem_nil, or_false] at this
    rcases this with e | e | e | e <;> (rw [e]; exact ⟨by decide, by decide⟩))) (by rw [h.nl]; exact h.len)
  show (D.rw (q.js.map jnD) _ && (D.rw (q.ns.map D.str) _ && true)) = true
  rw [h1, h2]; rfl
def lbE (ns : List Int) (ts : List Tb) (q : Qn) (x3 : Sl) (k : Str) (x8 x9 x10 x11 x12 x13 x14 x15 x16 : Sl) : En := laE ns ts x3 (.val (.tup (q.js.map jnD))) (.val (.tup (q.ns.map D.str))) (.val (.str q.word)) (.val (.str k)) x8 x9 x10 x11 x12 x13 x14 x15 x16
def LbI (ns : List Int) (ts : List Tb) (q : Qn) (x3 : Sl) (k : Str) (x8 : Sl) (_ : Nat) (en : En) : Prop := ∃ x9 x10 x11 x12 x13 x14, en = lbE ns ts q x3 k x8 x9 x10 x11 x12 x13 x14 .no .no
theorem any_shp {n : Str} (h : n ∈ (["x", "y", "z", "q"] : List Str)) : shp (tmD ("any", n)) = true := by
  simp only [List.mem_cons, List.not_mem_nil, or_false] at h
  rcases h with e | e | e | e <;> (rw [e]; decide +kernel)
/-- what the law makes of the question -/
theorem put_all {q : Qn} (h : QnOk q) : lcT (fun _ => M.ret true) (fun a : List Atm × Str => m_w_put [jnD a.1, D.str a.2, D.str q.word]) (q.js.zip q.ns) = M.ret ((q.js.zip q.ns).map (putQ q.word)) := by
  refine lcT_all _ (fun _ _ => rfl) fun p hp => ?_
  have hj := List.of_mem_zip hp
  exact r_put (h.ok _ hj.1).2 (by have := (h.ok _ hj.1).1; omega) h.w (any_shp (h.nm _ hj.2))
theorem ne_self (s : Str) : cmpD .ne (.str s) (.str s) = some false := by
  rw [c_neS]
  simp
theorem eq_self (s : Str) : cmpD .eq (.str s) (.str s) = some true := by
  rw [c_eqS]
  simp
/-- a join's facts -/
theorem r_one {ns : List Int} {ts : List Tb} {q : Qn} {x3 x8 : Sl} {k : Str} (h : QnOk q) {as : List Atm} (hm : as ∈ q.js) {j : Nat} {en : En} (he : LbI ns ts q x3 k x8 j en) :
    Dr 20 (M.bnd (M.opt (asg (.nm 9) (jnD as) en)) fun en1 => sts c_law b_law_5 en1) fun r => r.1 = .nx ∧ LbI ns ts q x3 k x8 (j + 1) r.2 := by
  obtain ⟨x9, x10, x11, x12, x13, x14, rfl⟩ := he
  have e2 : c_law.fn[2]? = some tk_m := rfl
  obtain ⟨hl, ha⟩ := h.ok as hm
  have evr := r_variables ha hl
  rw [lbE, laE]
  simp (config := { maxSteps := 400000 }) [z_rb, z_bb, z_br, z_os, z_on, z_nb, z_I, z_B, z_O, z_L, z_ib, z_oi, z_lcD, z_lcM, z_lcF, z_lcA, z_lcI, z_catD, z_catM, z_catA, z_catF, -List.map_take, -List.map_drop, -List.length_flatMap, line1, Cv.run, sts, st, ev, evt, evc, evs, evo, evi, startE, asgC, asg2C, asg3C, asg4C, z_ft, setV, slL, Function.comp_def, wipeE, seqD, s_get, s_min, s_max, s_join, s_index, s_disp1, s_new, s_new2, s_bin2, b_law_5, evr]
  refine Dr.take ?_ ?_ ?_ fun v hv0 hv1 => ?_
  any_goals omega
  have hvl := vrs_len as ha
  have hsl := ssBy_len D.str (vrs as)
  have huv : ∀ u ∈ ssBy D.str (vrs as), u ∈ (["x", "y", "z"] : List Str) := fun u hu => vrs_mem ha (ssBy_mem hu)
  obtain ⟨us, hus⟩ : ∃ us, us = ssBy D.str (vrs as) ++ (["q", "w"] : List Str).take v.toNat := ⟨_, rfl⟩
  have hul : us.length ≤ 18 := by
    rw [hus, List.length_append, List.length_take]
    have : (["q", "w"] : List Str).length = 2 := rfl
    omega
  have hnd : us.Nodup := by
    rw [hus, List.nodup_append]
    refine ⟨ssBy_nd _, List.Sublist.nodup (List.take_sublist _ _) (by decide), fun a h1 b h2 e => ?_⟩
    have h1 := huv a h1
    have h2 := List.mem_of_mem_take h2
    simp only [List.mem_cons, List.not_mem_nil, or_false] at h1 h2
    rcases h1 with rfl | rfl | rfl <;> rcases h2 with rfl | rfl <;> exact absurd e (by decide)
  have hw4 : ∀ u ∈ us, W4 u := fun u hu => by
    rw [hus] at hu
    rcases List.mem_append.mp hu with e | e
    · have e := huv u e
      simp only [List.mem_cons, List.not_mem_nil, or_false] at e
      rcases e with rfl | rfl | rfl <;> exact ⟨by decide, by decide⟩
    · have e := List.mem_of_mem_take e
      simp only [List.mem_cons, List.not_mem_nil, or_false] at e
      rcases e with rfl | rfl <;> exact ⟨by decide, by decide⟩
  have hadd : ∀ F : D → M (Fl × En), ((M.opt (sliD (D.lst [D.str (Str.ofString "q"), D.str (Str.ofString "w")]) none (some v))).bnd fun a => (M.opt (binD Bo.add (D.lst ((ssBy D.str (vrs as)).map D.str)) a)).bnd F) = F (.lst (us.map D.str)) := fun F => by
    have e1 : sliD (D.lst [D.str (Str.ofString "q"), D.str (Str.ofString "w")]) none (some v) = some (.lst (((["q", "w"] : List Str).take v.toNat).map D.str)) := by
      show some (D.lst (cutD _ none (some v))) = _
      rw [cut_to _ hv0, List.map_take]
      rfl
    rw [e1]
    show (M.opt (if _ then some (D.lst _) else none)).bnd F = _
    rw [if_pos, hus, List.map_append]
    · rfl
    · rw [List.length_map, List.length_map, List.length_take, sizeLine_eq]
      omega
  simp (config := { maxSteps := 400000 }) [z_rb, z_bb, z_br, z_os, z_on, z_nb, z_I, z_B, z_O, z_L, z_ib, z_oi, z_lcD, z_lcM, z_lcF, z_lcA, z_lcI, z_catD, z_catM, z_catA, z_catF, -List.map_take, -List.map_drop, -List.length_flatMap, line1, Cv.run, sts, st, ev, evt, evc, evs, evo, evi, startE, asgC, asg2C, asg3C, asg4C, z_ft, setV, slL, Function.comp_def, wipeE, seqD, s_get, s_min, s_max, s_join, s_index, s_disp1, s_new, s_new2, s_bin2]
  rw [hadd]
  simp (config := { maxSteps := 400000 }) [z_rb, z_bb, z_br, z_os, z_on, z_nb, z_I, z_B, z_O, z_L, z_ib, z_oi, z_lcD, z_lcM, z_lcF, z_lcA, z_lcI, z_catD, z_catM, z_catA, z_catF, -List.map_take, -List.map_drop, -List.length_flatMap, line1, Cv.run, sts, st, ev, evt, evc, evs, evo, evi, startE, asgC, asg2C, asg3C, asg4C, z_ft, setV, slL, Function.comp_def, wipeE, seqD, s_get, s_min, s_max, s_join, s_index, s_disp1, s_new, s_new2, s_bin2, e_law_4, e2]
  refine Dr.part (Dr.lcp (k := 1) (f := tmD) (p := fun b => b.1) (Q := fun b => b.2 ∈ (["a", "b", "cc"] : List Str)) (by decide) us fun a _ => ?_) ?_ ?_
  · refine Dr.take ?_ ?_ ?_ fun u hu0 hu1 => ?_
    any_goals omega
    obtain ⟨w, hw1, ew⟩ := ix_map (f := D.str) (xs := ["a", "b", "cc"]) hu0 hu1
    have ew : idxD (D.lst [D.str (Str.ofString "a"), D.str (Str.ofString "b"), D.str (Str.ofString "cc")]) (D.int u) = some (.str w) := ew
    rw [ew]
    exact Dr.ret (by decide) ⟨(a, w), rfl, rfl, hw1⟩
  · omega
  rintro _ ⟨kv, rfl, hkv, hkw⟩
  have hkn : (kv.map (·.1)).Nodup := by
    have : kv.map (·.1) = us := hkv
    rw [this]; exact hnd
  have hkl : kv.length ≤ 18 := by
    have := congrArg List.length hkv
    rw [List.length_map] at this
    omega
  have hk4 : ∀ p ∈ kv, W4 p.2 := fun p hp => by
    have := hkw p hp
    simp only [List.mem_cons, List.not_mem_nil, or_false] at this
    rcases this with e | e | e <;> (rw [e]; exact ⟨by decide, by decide⟩)
  have hk1 : ∀ p ∈ kv, W4 p.1 := fun p hp => hw4 p.1 (by rw [← hkv]; exact List.mem_map_of_mem (f := fun b : Str × Str => b.1) hp)
  have hkt : ∀ x ∈ kv.map tmD, D.ty x (.t (.c (.s 8) (.c (.s 8) .n))) = true := fun x hx => by
    obtain ⟨p, hp, rfl⟩ := List.mem_map.mp hx
    have q1 := w4_ty (hk1 p hp)
    have q2 := w4_ty (hk4 p hp)
    show (D.ty (.str p.1) (.s 8) && (D.ty (.str p.2) (.s 8) && true)) = true
    rw [q1, q2]; rfl
  obtain ⟨kw, hkw2⟩ : ∃ kw, kw = kv.mergeSort fun a b => leD (tmD a) (tmD b) := ⟨_, rfl⟩
  have hperm : kv.Perm kw := by rw [hkw2]; exact (List.mergeSort_perm _ _).symm
  have hso : b1D .sorted (.itv (kv.map fun p => .str p.1) (kv.map fun p => .str p.2)) = some (.lst (kw.map tmD)) := by
    show (srtD (itemsD _ _)).map D.lst = _
    have ei : itemsD (kv.map fun p => D.str p.1) (kv.map fun p => D.str p.2) = kv.map tmD := items_map _ _ kv
    rw [ei, ty_srt hkt (by decide) (by rw [List.length_map]; omega), hkw2, ← List.map_mergeSort (r := fun a b => leD (tmD a) (tmD b)) (s := leD) (f := tmD) fun a _ b _ => rfl]
    rfl
  have hin : AllIn kv as := fun a h1 t h2 h3 => by
    have hm1 : t.2 ∈ vrs as := List.mem_flatMap.mpr ⟨a, h1, List.mem_map.mpr ⟨t, List.mem_filter.mpr ⟨h2, by unfold isV; rw [h3]; rfl⟩, rfl⟩⟩
    have hm2 : t.2 ∈ kv.map (·.1) := by
      have e : kv.map (·.1) = us := hkv
      rw [e, hus]
      exact List.mem_append_left _ (ssBy_all nk_str_inj hm1)
    obtain ⟨p, hp, hp2⟩ := List.mem_map.mp hm2
    unfold look2
    rw [Option.isSome_map, List.find?_isSome]
    exact ⟨p, hp, decide_eq_true hp2⟩
  have hlk : ∀ s, look2 kv s = look2 kw s := look_perm hperm hkn
  have hin2 : AllIn kw as := fun a h1 t h2 h3 => by rw [← hlk]; exact hin a h1 t h2 h3
  have hav : aV kw = aV kv := by
    funext a
    unfold aV
    congr 1
    refine List.map_congr_left fun t _ => ?_
    unfold tV
    rw [hlk]
  have hfb := r_facts_by (kv := kw) ha hl (fun p hp => hk4 p (hperm.mem_iff.mpr hp)) ((hperm.map _).nodup_iff.mp hkn) hin2
  have hft : ftsD kw as = ftsD kv as := by unfold ftsD; rw [hav]
  rw [hft] at hfb
  have hco := r_come ha hl hin
  have hfo : ∀ x ∈ (as.map (aV kv)).map pF, D.ty x tyFt = true := fun x hx => by
    obtain ⟨y, hy, rfl⟩ := List.mem_map.mp hx
    obtain ⟨a, h1, rfl⟩ := List.mem_map.mp hy
    exact ft_ty (aV_ok hk4 (ha a h1))
  obtain ⟨g1, g2⟩ := ss_go (r := _) hfo (by decide) (by rw [List.length_map, List.length_map]; omega)
  have hrep : b1D .repr (ftsD kv as) = some (.str (ftsD kv as).py.shown) := ty_repr (a := .t (.l 4 tyFt)) (rw_l (fun x hx => hfo x (ss_mem hx)) (Nat.le_trans (ss_len _) (by rw [List.length_map, List.length_map]; exact hl))) (by decide) (by decide) (by decide)
  have hf0 : ftsD kv as = .tup (ss ((as.map (aV kv)).map pF)) := rfl
  have hdk := dict_kvL hkn
  have hit : m0D .items (dD kv) = some (.itv (kv.map fun p => .str p.1) (kv.map fun p => .str p.2)) := rfl
  generalize (as.map (aV kv)).map pF = L at hf0 hco g1 g2
  rw [hf0] at hrep hfb
  generalize (D.tup (ss L)).py.shown = K at hrep
  rw [hdk]
  simp (config := { maxSteps := 400000 }) [z_rb, z_bb, z_br, z_os, z_on, z_nb, z_I, z_B, z_O, z_L, z_ib, z_oi, z_lcD, z_lcM, z_lcF, z_lcA, z_lcI, z_catD, z_catM, z_catA, z_catF, -List.map_take, -List.map_drop, -List.length_flatMap, line1, Cv.run, sts, st, ev, evt, evc, evs, evo, evi, startE, asgC, asg2C, asg3C, asg4C, z_ft, setV, slL, Function.comp_def, wipeE, seqD, s_get, s_min, s_max, s_join, s_index, s_disp1, s_new, s_new2, s_bin2, hit, hso, fb_eq, hfb, hco, g1, g2, hrep, ne_self]
  exact Dr.ret (by omega) ⟨rfl, _, _, _, _, _, _, rfl⟩
theorem ss_one (d : D) : ss [d] = [d] := by simp [ss, dedD]
theorem ss_two (d : D) : ss [d, d] = [d] := by simp [ss, dedD]
def d1 : D := .tup [.tup [.tup [.str "a", .tup [.tup [.str "word", .str "b"], .tup [.str "word", .str "a"]]]]]
def d2 : D := .tup [.tup [.str "a", .tup [.str "b", .str "a"]]]
def d3 : D := .tup [.tup [.tup [.str "a", .tup [.tup [.str "word", .str "b"]]]]]
theorem fin1 : Cv.m_put_words [D.tup [D.tup [D.tup [D.str (Str.ofString "a"), D.tup [D.tup [D.str (Str.ofString "any"), D.str (Str.ofString "a")], D.tup [D.str (Str.ofString "word"), D.str (Str.ofString "a")]]]]], D.tup [D.str (Str.ofString "a")], D.str (Str.ofString "b")] = M.ret d1 := by
  have g1 := r_put_wordsG (js := [[⟨"a", [("any", "a"), ("word", "a")]⟩]]) (ns := ["a"]) (word := "b") (by decide +kernel) (by decide +kernel) rfl (by decide)
  refine Eq.trans g1 ?_
  show M.ret (D.tup (ss [D.tup (ss [_])])) = _
  rw [ss_one, ss_one]
  rfl
theorem fin2 : Cv.m_facts_by [D.tup [D.tup [D.str (Str.ofString "a"), D.tup [D.tup [D.str (Str.ofString "any"), D.str (Str.ofString "a")], D.tup [D.str (Str.ofString "word"), D.str (Str.ofString "a")]]]], D.tup [D.tup [D.str (Str.ofString "a"), D.str (Str.ofString "b")]]] = M.ret d2 := by
  have g2 := r_facts_byG (as := [⟨"a", [("any", "a"), ("word", "a")]⟩]) (kv := [("a", "b")]) (by decide +kernel) (by decide +kernel) (fun a ha => by
    rw [List.mem_singleton.mp ha]
    exact ⟨⟨by decide, by decide⟩, by decide, fun u hu => by
      have hu : u ∈ (["b", "a"] : List Str) := hu
      simp only [List.mem_cons, List.not_mem_nil, or_false] at hu
      rcases hu with rfl | rfl <;> exact ⟨by decide, by decide⟩⟩) (by decide) (by decide) (fun a ha t ht h => by
    rw [List.mem_singleton.mp ha] at ht
    simp only [List.mem_cons, List.not_mem_nil, or_false] at ht
    rcases ht with rfl | rfl
    · rfl
    · exact absurd h (by decide))
  refine Eq.trans g2 ?_
  show M.ret (D.tup (ss [_])) = _
  rw [ss_one]
  rfl
theorem fin3 : Cv.m_put_words [D.tup [D.tup [D.tup [D.str (Str.ofString "a"), D.tup [D.tup [D.str (Str.ofString "any"), D.str (Str.ofString "x")]]]], D.tup [D.tup [D.str (Str.ofString "a"), D.tup [D.tup [D.str (Str.ofString "any"), D.str (Str.ofString "y")]]]]], D.tup [D.str (Str.ofString "x"), D.str (Str.ofString "y")], D.str (Str.ofString "b")] = M.ret d3 := by
  have g3 := r_put_wordsG (js := [[⟨"a", [("any", "x")]⟩], [⟨"a", [("any", "y")]⟩]]) (ns := ["x", "y"]) (word := "b") (by decide +kernel) (by decide +kernel) rfl (by decide)
  refine Eq.trans g3 ?_
  show M.ret (D.tup (ss [D.tup (ss [_]), D.tup (ss [_])])) = _
  rw [ss_one, ss_one]
  show M.ret (D.tup (ss [D.tup [D.tup [.str "a", .tup [.tup [.str "word", .str "b"]]]], D.tup [D.tup [.str "a", .tup [.tup [.str "word", .str "b"]]]]])) = _
  rw [ss_two]
  rfl
theorem rep1 : b1D .repr d1 = some (.str d1.py.shown) := ty_repr (a := .t (.l 4 (.t (.l 4 tyAt)))) (by decide +kernel) (by decide) (by decide) (by decide)
theorem rep2 : b1D .repr d2 = some (.str d2.py.shown) := ty_repr (a := .t (.l 4 tyFt)) (by decide +kernel) (by decide) (by decide) (by decide)
theorem rep3 : b1D .repr d3 = some (.str d3.py.shown) := ty_repr (a := .t (.l 4 (.t (.l 4 tyAt)))) (by decide +kernel) (by decide) (by decide) (by decide)
theorem says (ns : List Int) (_hn : ns.length ≤ 63) : ∃ S', m_law [.lst (ns.map D.int)] [] = some (.bl true, S') := by
  obtain ⟨cs, et⟩ := r_tap (ns := ns)
  have e0 : c_law.fn[0]? = some m_w_tap := rfl
  have e1 : c_law.fn[1]? = some Cv.m_w_base := rfl
  have e2 : c_law.fn[2]? = some tk_m := rfl
  have e3 : c_law.fn[3]? = some Cv.m_w_join := rfl
  have e4 : c_law.fn[4]? = some m_w_put := rfl
  have e5 : c_law.fn[5]? = some Cv.m_put_words := rfl
  have e6 : c_law.fn[6]? = some m_w_variables := rfl
  have e7 : c_law.fn[7]? = some Cv.m_facts_by := rfl
  have e8 : c_law.fn[8]? = some m_w_come := rfl
  have main : ∀ F : D → M D, m_law [.lst (ns.map D.int)] = M.bnd (m_w_tap [.lst (ns.map D.int)]) F → Dr 4000 (F (.obj 0)) (fun d => d = .bl true) → ∃ S', m_law [.lst (ns.map D.int)] [] = some (.bl true, S') := fun F hF hD => by
    obtain ⟨a, S', e, rfl, _⟩ := hD 0 [.fl (tap cs 0 0 0)] ⟨cs, 0, 0, 0, rfl, by decide, by decide, by decide, by decide⟩ (by decide)
    exact ⟨S', by rw [hF, x_bnd, et]; exact e⟩
  refine main _ (by simp (config := { maxSteps := 400000 }) [z_rb, z_bb, z_br, z_os, z_on, z_nb, z_I, z_B, z_O, z_L, z_ib, z_oi, z_lcD, z_lcM, z_lcF, z_lcA, z_lcI, z_catD, z_catM, z_catA, z_catF, -List.map_take, -List.map_drop, -List.length_flatMap, line1, Cv.run, sts, st, ev, evt, evc, evs, evo, evi, startE, asgC, asg2C, asg3C, asg4C, z_ft, setV, slL, Function.comp_def, wipeE, seqD, s_get, s_min, s_max, s_join, s_index, s_disp1, s_new, s_new2, s_bin2, m_law, N_law, b_law, e0, e1, e5, e7]; rfl) ?_
  have er : rangeD 0 6 = (List.range 6).map fun (k : Nat) => D.int (0 + (k : Int)) := rfl
  have hrg : rgOk 6 = true := by decide
  refine Dr.part (r_base 8 (by decide)) (by decide) ?_
  rintro _ ⟨ts, rfl, hts⟩
  simp (config := { maxSteps := 400000 }) [z_rb, z_bb, z_br, z_os, z_on, z_nb, z_I, z_B, z_O, z_L, z_ib, z_oi, z_lcD, z_lcM, z_lcF, z_lcA, z_lcI, z_catD, z_catM, z_catA, z_catF, -List.map_take, -List.map_drop, -List.length_flatMap, line1, Cv.run, sts, st, ev, evt, evc, evs, evo, evi, startE, asgC, asg2C, asg3C, asg4C, z_ft, setV, slL, Function.comp_def, wipeE, seqD, s_get, s_min, s_max, s_join, s_index, s_disp1, s_new, s_new2, s_bin2, hrg, er]
  refine Dr.part (Dr.frr (k := 500) (LaI ns ts) (by decide) (List.range 6) ⟨_, _, _, _, _, _, _, _, _, _, _, _, rfl⟩ ?_) ?_ ?_
  · rintro j x en hx ⟨x3, x4, x5, x6, x7, x8, x9, x10, x11, x12, x13, x14, rfl⟩
    rw [laE]
    simp (config := { maxSteps := 400000 }) [z_rb, z_bb, z_br, z_os, z_on, z_nb, z_I, z_B, z_O, z_L, z_ib, z_oi, z_lcD, z_lcM, z_lcF, z_lcA, z_lcI, z_catD, z_catM, z_catA, z_catF, -List.map_take, -List.map_drop, -List.length_flatMap, line1, Cv.run, sts, st, ev, evt, evc, evs, evo, evi, startE, asgC, asg2C, asg3C, asg4C, z_ft, setV, slL, Function.comp_def, wipeE, seqD, s_get, s_min, s_max, s_join, s_index, s_disp1, s_new, s_new2, s_bin2, b_law_6, e_law_1, e2, e3]
    refine Dr.take ?_ ?_ ?_ fun k0 hk0 hk1 => ?_
    any_goals omega
    obtain ⟨k, rfl⟩ : ∃ k : Nat, k0 = k := ⟨k0.toNat, by omega⟩
    have hrgk : rgOk (k : Int) = true := by
      unfold rgOk
      rw [Bool.and_eq_true, decide_eq_true_eq, decide_eq_true_eq]
      omega
    have erk : rangeD 0 (k : Int) = (List.range k).map fun (k : Nat) => D.int (0 + (k : Int)) := by
      unfold rangeD
      simp
    simp (config := { maxSteps := 400000 }) [z_rb, z_bb, z_br, z_os, z_on, z_nb, z_I, z_B, z_O, z_L, z_ib, z_oi, z_lcD, z_lcM, z_lcF, z_lcA, z_lcI, z_catD, z_catM, z_catA, z_catF, -List.map_take, -List.map_drop, -List.length_flatMap, line1, Cv.run, sts, st, ev, evt, evc, evs, evo, evi, startE, asgC, asg2C, asg3C, asg4C, z_ft, setV, slL, Function.comp_def, wipeE, seqD, s_get, s_min, s_max, s_join, s_index, s_disp1, s_new, s_new2, s_bin2, hrgk, erk]
    refine Dr.part (Dr.lc (k := 80) (f := jnD) (Q := fun as => as.length ≤ 3 ∧ ∀ a ∈ as, AtOk a) (by decide) (List.range k) fun a _ => ?_) ?_ ?_
    · refine Dr.mono (r_join hts (by decide) 3 (by decide)) (by decide) ?_
      rintro d ⟨as, rfl, h1, h2, _⟩
      exact ⟨as, rfl, h1, h2⟩
    · simp; omega
    rintro _ ⟨js0, rfl, hjl, hj0⟩
    rw [List.length_range] at hjl
    have hjt : ∀ x ∈ js0.map jnD, D.ty x (.t (.l 4 tyAt)) = true := fun x hx => by
      obtain ⟨j, hj, rfl⟩ := List.mem_map.mp hx
      exact rw_lM (f := Atm.d) (fun a ha => at_ty ((hj0 j hj).2 a ha)) (by have := (hj0 j hj).1; omega)
    obtain ⟨s1, s2⟩ := ss_go (r := _) hjt (by decide) (by rw [List.length_map]; omega)
    rw [ss_map] at s2
    have hjs : ∀ j ∈ ssBy jnD js0, j.length ≤ 3 ∧ ∀ a ∈ j, AtOk a := fun j hj => hj0 j (ssBy_mem hj)
    have hjl2 := ssBy_len jnD js0
    generalize ssBy jnD js0 = js at s2 hjs hjl2
    rw [s1]
    simp (config := { maxSteps := 400000 }) [z_rb, z_bb, z_br, z_os, z_on, z_nb, z_I, z_B, z_O, z_L, z_ib, z_oi, z_lcD, z_lcM, z_lcF, z_lcA, z_lcI, z_catD, z_catM, z_catA, z_catF, -List.map_take, -List.map_drop, -List.length_flatMap, line1, Cv.run, sts, st, ev, evt, evc, evs, evo, evi, startE, asgC, asg2C, asg3C, asg4C, z_ft, setV, slL, Function.comp_def, wipeE, seqD, s_get, s_min, s_max, s_join, s_index, s_disp1, s_new, s_new2, s_bin2, s2, e_law_2, e2]
    refine Dr.part (Dr.lc (k := 1) (f := D.str) (Q := fun n => n ∈ (["x", "y", "z", "q"] : List Str)) (by decide) js fun a _ => ?_) ?_ ?_
    · refine Dr.take ?_ ?_ ?_ fun v hv0 hv1 => ?_
      any_goals omega
      obtain ⟨n, hn1, en⟩ := ix_map (f := D.str) (xs := ["x", "y", "z", "q"]) hv0 hv1
      have en : idxD (D.lst [D.str (Str.ofString "x"), D.str (Str.ofString "y"), D.str (Str.ofString "z"), D.str (Str.ofString "q")]) (D.int v) = some (.str n) := en
      rw [en]
      exact Dr.ret (by decide) ⟨n, rfl, hn1⟩
    · simp; omega
    rintro _ ⟨nm, rfl, hnl, hnm⟩
    simp (config := { maxSteps := 400000 }) [z_rb, z_bb, z_br, z_os, z_on, z_nb, z_I, z_B, z_O, z_L, z_ib, z_oi, z_lcD, z_lcM, z_lcF, z_lcA, z_lcI, z_catD, z_catM, z_catA, z_catF, -List.map_take, -List.map_drop, -List.length_flatMap, line1, Cv.run, sts, st, ev, evt, evc, evs, evo, evi, startE, asgC, asg2C, asg3C, asg4C, z_ft, setV, slL, Function.comp_def, wipeE, seqD, s_get, s_min, s_max, s_join, s_index, s_disp1, s_new, s_new2, s_bin2]
    refine Dr.take ?_ ?_ ?_ fun v hv0 hv1 => ?_
    any_goals omega
    obtain ⟨w, hw1, ew⟩ := ix_map (f := D.str) (xs := ["a", "b", "zzzzzzzz"]) hv0 hv1
    have ew : idxD (D.lst [D.str (Str.ofString "a"), D.str (Str.ofString "b"), D.str (Str.ofString "zzzzzzzz")]) (D.int v) = some (.str w) := ew
    have hq : QnOk ⟨js, nm, w⟩ := ⟨fun j hj => ⟨by have := (hjs j hj).1; omega, (hjs j hj).2⟩, by show js.length ≤ 4; omega, hnl, hnm, by
      show W4 w
      simp only [List.mem_cons, List.not_mem_nil, or_false] at hw1
      rcases hw1 with e | e | e <;> (rw [e]; exact ⟨by decide, by decide⟩)⟩
    have hrep : b1D .repr (D.tup [D.tup (js.map jnD), D.tup (nm.map D.str)]) = some (.str (qnD ⟨js, nm, w⟩).py.shown) := ty_repr (qn_ty hq) (by decide) (by decide) (by decide)
    have hpa := put_all hq
    have hpw := r_put_words (js := js) (ns := nm) (word := w) hq.ok hq.w hnl.symm (by omega)
    have hqt : ∀ x ∈ (js.zip nm).map (putQ w), D.ty x (.t (.l 4 tyAt)) = true := putQ_ty (ns := nm) hq.ok hq.w
    have hql : ((js.zip nm).map (putQ w)).length ≤ 4 := by rw [List.length_map, List.length_zip]; omega
    obtain ⟨g1, g2⟩ := ss_go (r := _) hqt (by decide) (by omega)
    have hrep2 : b1D .repr (D.tup (ss ((js.zip nm).map (putQ w)))) = some (.str (D.tup (ss ((js.zip nm).map (putQ w)))).py.shown) := ty_repr (a := .t (.l 4 (.t (.l 4 tyAt)))) (rw_l (fun x hx => hqt x (ss_mem hx)) (Nat.le_trans (ss_len _) hql)) (by decide) (by decide) (by decide)
    have hpa : lcT (fun _ => M.ret true) (fun a : List Atm × Str => m_w_put [jnD a.1, D.str a.2, D.str w]) (js.zip nm) = M.ret ((js.zip nm).map (putQ w)) := hpa
    generalize hK : (qnD ⟨js, nm, w⟩).py.shown = K at hrep
    generalize (js.zip nm).map (putQ w) = L at g1 g2 hpa hpw hrep2
    generalize hK2 : (D.tup (ss L)).py.shown = K2 at hrep2
    simp (config := { maxSteps := 400000 }) [z_rb, z_bb, z_br, z_os, z_on, z_nb, z_I, z_B, z_O, z_L, z_ib, z_oi, z_lcD, z_lcM, z_lcF, z_lcA, z_lcI, z_catD, z_catM, z_catA, z_catF, -List.map_take, -List.map_drop, -List.length_flatMap, line1, Cv.run, sts, st, ev, evt, evc, evs, evo, evi, startE, asgC, asg2C, asg3C, asg4C, z_ft, setV, slL, Function.comp_def, wipeE, seqD, s_get, s_min, s_max, s_join, s_index, s_disp1, s_new, s_new2, s_bin2, ew, hrep, e_law_3, seqZ, zOk, zip_map, pw_eq, hpw, hrep2]
    rw [hpa, z_rb, g1, z_os, z_rb, g2, z_os, z_rb]
    simp (config := { maxSteps := 400000 }) [z_rb, z_bb, z_br, z_os, z_on, z_nb, z_I, z_B, z_O, z_L, z_ib, z_oi, z_lcD, z_lcM, z_lcF, z_lcA, z_lcI, z_catD, z_catM, z_catA, z_catF, -List.map_take, -List.map_drop, -List.length_flatMap, line1, Cv.run, sts, st, ev, evt, evc, evs, evo, evi, startE, asgC, asg2C, asg3C, asg4C, z_ft, setV, slL, Function.comp_def, wipeE, seqD, s_get, s_min, s_max, s_join, s_index, s_disp1, s_new, s_new2, s_bin2, hrep2, ne_self]
    refine Dr.part (Dr.frr (k := 20) (LbI ns ts ⟨js, nm, w⟩ (.val (.int x)) K (.val (.lst (ss L)))) (by decide) js ⟨_, _, _, _, _, _, rfl⟩ fun i as en hi he => r_one hq (get_mem hi) he) ?_ ?_
    · omega
    rintro ⟨fl, en⟩ ⟨h1, y9, y10, y11, y12, y13, y14, h2⟩
    have h1 : fl = .nx := h1
    have h2 : en = _ := h2
    subst h1 h2
    rw [lbE, laE]
    simp (config := { maxSteps := 400000 }) [z_rb, z_bb, z_br, z_os, z_on, z_nb, z_I, z_B, z_O, z_L, z_ib, z_oi, z_lcD, z_lcM, z_lcF, z_lcA, z_lcI, z_catD, z_catM, z_catA, z_catF, -List.map_take, -List.map_drop, -List.length_flatMap, line1, Cv.run, sts, st, ev, evt, evc, evs, evo, evi, startE, asgC, asg2C, asg3C, asg4C, z_ft, setV, slL, Function.comp_def, wipeE, seqD, s_get, s_min, s_max, s_join, s_index, s_disp1, s_new, s_new2, s_bin2, hrep, ne_self]
    exact Dr.ret (by omega) ⟨rfl, _, _, _, _, _, _, _, _, _, _, _, _, rfl⟩
  · decide
  · rintro ⟨fl, en⟩ ⟨h1, x3, x4, x5, x6, x7, x8, x9, x10, x11, x12, x13, x14, h2⟩
    have h1 : fl = .nx := h1
    have h2 : en = _ := h2
    subst h1 h2
    rw [laE]
    simp (config := { maxSteps := 400000 }) [z_rb, z_bb, z_br, z_os, z_on, z_nb, z_I, z_B, z_O, z_L, z_ib, z_oi, z_lcD, z_lcM, z_lcF, z_lcA, z_lcI, z_catD, z_catM, z_catA, z_catF, -List.map_take, -List.map_drop, -List.length_flatMap, line1, Cv.run, sts, st, ev, evt, evc, evs, evo, evi, startE, asgC, asg2C, asg3C, asg4C, z_ft, setV, slL, Function.comp_def, wipeE, seqD, s_get, s_min, s_max, s_join, s_index, s_disp1, s_new, s_new2, s_bin2]
    rw [fin1]
    simp (config := { maxSteps := 400000 }) [z_rb, z_bb, z_br, z_os, z_on, z_nb, z_I, z_B, z_O, z_L, z_ib, z_oi, z_lcD, z_lcM, z_lcF, z_lcA, z_lcI, z_catD, z_catM, z_catA, z_catF, -List.map_take, -List.map_drop, -List.length_flatMap, line1, Cv.run, sts, st, ev, evt, evc, evs, evo, evi, startE, asgC, asg2C, asg3C, asg4C, z_ft, setV, slL, Function.comp_def, wipeE, seqD, s_get, s_min, s_max, s_join, s_index, s_disp1, s_new, s_new2, s_bin2, rep1]
    rw [show b1D .repr (D.tup [D.tup [D.tup [D.str (Str.ofString "a"), D.tup [D.tup [D.str (Str.ofString "word"), D.str (Str.ofString "b")], D.tup [D.str (Str.ofString "word"), D.str (Str.ofString "a")]]]]]) = some (.str d1.py.shown) from rep1]
    simp (config := { maxSteps := 400000 }) [z_rb, z_bb, z_br, z_os, z_on, z_nb, z_I, z_B, z_O, z_L, z_ib, z_oi, z_lcD, z_lcM, z_lcF, z_lcA, z_lcI, z_catD, z_catM, z_catA, z_catF, -List.map_take, -List.map_drop, -List.length_flatMap, line1, Cv.run, sts, st, ev, evt, evc, evs, evo, evi, startE, asgC, asg2C, asg3C, asg4C, z_ft, setV, slL, Function.comp_def, wipeE, seqD, s_get, s_min, s_max, s_join, s_index, s_disp1, s_new, s_new2, s_bin2, ne_self]
    rw [fin2]
    simp (config := { maxSteps := 400000 }) [z_rb, z_bb, z_br, z_os, z_on, z_nb, z_I, z_B, z_O, z_L, z_ib, z_oi, z_lcD, z_lcM, z_lcF, z_lcA, z_lcI, z_catD, z_catM, z_catA, z_catF, -List.map_take, -List.map_drop, -List.length_flatMap, line1, Cv.run, sts, st, ev, evt, evc, evs, evo, evi, startE, asgC, asg2C, asg3C, asg4C, z_ft, setV, slL, Function.comp_def, wipeE, seqD, s_get, s_min, s_max, s_join, s_index, s_disp1, s_new, s_new2, s_bin2, rep2]
    rw [show b1D .repr (D.tup [D.tup [D.str (Str.ofString "a"), D.tup [D.str (Str.ofString "b"), D.str (Str.ofString "a")]]]) = some (.str d2.py.shown) from rep2]
    simp (config := { maxSteps := 400000 }) [z_rb, z_bb, z_br, z_os, z_on, z_nb, z_I, z_B, z_O, z_L, z_ib, z_oi, z_lcD, z_lcM, z_lcF, z_lcA, z_lcI, z_catD, z_catM, z_catA, z_catF, -List.map_take, -List.map_drop, -List.length_flatMap, line1, Cv.run, sts, st, ev, evt, evc, evs, evo, evi, startE, asgC, asg2C, asg3C, asg4C, z_ft, setV, slL, Function.comp_def, wipeE, seqD, s_get, s_min, s_max, s_join, s_index, s_disp1, s_new, s_new2, s_bin2, ne_self]
    rw [fin3]
    simp (config := { maxSteps := 400000 }) [z_rb, z_bb, z_br, z_os, z_on, z_nb, z_I, z_B, z_O, z_L, z_ib, z_oi, z_lcD, z_lcM, z_lcF, z_lcA, z_lcI, z_catD, z_catM, z_catA, z_catF, -List.map_take, -List.map_drop, -List.length_flatMap, line1, Cv.run, sts, st, ev, evt, evc, evs, evo, evi, startE, asgC, asg2C, asg3C, asg4C, z_ft, setV, slL, Function.comp_def, wipeE, seqD, s_get, s_min, s_max, s_join, s_index, s_disp1, s_new, s_new2, s_bin2, rep3]
    rw [show b1D .repr (D.tup [D.tup [D.tup [D.str (Str.ofString "a"), D.tup [D.tup [D.str (Str.ofString "word"), D.str (Str.ofString "b")]]]]]) = some (.str d3.py.shown) from rep3]
    simp (config := { maxSteps := 400000 }) [z_rb, z_bb, z_br, z_os, z_on, z_nb, z_I, z_B, z_O, z_L, z_ib, z_oi, z_lcD, z_lcM, z_lcF, z_lcA, z_lcI, z_catD, z_catM, z_catA, z_catF, -List.map_take, -List.map_drop, -List.length_flatMap, line1, Cv.run, sts, st, ev, evt, evc, evs, evo, evi, startE, asgC, asg2C, asg3C, asg4C, z_ft, setV, slL, Function.comp_def, wipeE, seqD, s_get, s_min, s_max, s_join, s_index, s_disp1, s_new, s_new2, s_bin2, eq_self]
    exact Dr.ret (by decide) rfl
end liftedworlds_k13_put


open PySem PySem.W PySem.Calls PyProof.Rows
theorem PySem.Challenge.cw_liftedworlds_k13_put_holds : PySem.Challenge.rw_liftedworlds_k13_put.Holds := by
  w_on; o_law
  refine HandSHeadRun.head_any (r := OpenLaw.row PySem.Challenge.rw_liftedworlds_k13_put) (q := view (OpenLaw.row PySem.Challenge.rw_liftedworlds_k13_put).prog [14]) (H := liftedworlds_k13_put.hk) (ob := liftedworlds_k13_put.ob) (M := 2000) (loose := liftedworlds_k13_put.loose) (d := HandSHeadRun.topDef (OpenLaw.row PySem.Challenge.rw_liftedworlds_k13_put).prog 14) (kwd := []) liftedworlds_k13_put.ob_eq
    (by kernel_rfl) (fun s => by kernel_rfl) liftedworlds_k13_put.run0 (by kernel_rfl) (by kernel_rfl) (by kernel_rfl) (by rfl) (by first | assumption | decide +kernel) (by decide +kernel) ⟨rfl, rfl, rfl, rfl, rfl, by decide +kernel⟩ ?hw ?hc
  case hw => w_witness2
  case hc =>
    refine Cv.walk_C (l := PySem.Challenge.rw_liftedworlds_k13_put) (n := 63) (k := 4) (x := "_law_script") rfl (by decide) (by kernel_rfl) ⟨rfl, by decide, by decide⟩ rfl fun w mg fa h Y G hmg0 => ?_
    obtain ⟨K, KX, c⟩ := Y
    have hmg : mg ("law" : PySem.Str) = some (.ref fa) := by
      have e : (HandSHeadRun.topDef (OpenLaw.row PySem.Challenge.rw_liftedworlds_k13_put).prog 14).name = ("law" : PySem.Str) := by kernel_rfl
      rw [← e]
      exact hmg0
    obtain ⟨fd, hb, hF⟩ := liftedworlds_k13_put.facts (P := PySem.Challenge.rw_liftedworlds_k13_put.prog) (w := w) KX G hmg c
    exact ⟨K, fd, liftedworlds_k13_put.m_law, KX, hb, liftedworlds_k13_put.says, hF⟩
