import PyProof.Rows.All
import Wide.All
import OpenK.AllK
import Wide.FinOn
import HandS.ForMost
import HandS.Codes
import HandS.Star
import HandS.IsInst
import HandS.More
import HandS.Deep
import HandS.TupAny
import HandS.Wide
import HandS.Steps
import KE.SortData
import KE.DataMinMax
import HandS.SortKw
import HandS.TupSets
import HandS.SetBool
import KE.KeyNested
import HandS.Walk
import HandS.Flow
import HandS.Conv
import PySem.Challenge.RW_holdtap_k56_whole_late_halves
section partR1
set_option Elab.async false
set_option linter.all false
set_option maxRecDepth 100000
namespace HT1
open PySem PySem.Spec PyProof.Rows L2
/-! ### own rules: match by written texts -/
/-- the arms of a match, for a value that is known -/
structure PM (X : Cx) (cs : List MatchCase) (t : V → TS) : Prop where
  run : ∀ (first : Bool) (pins : List (Addr × Obj)) (s : Shared) (σ : L2.St) (H : Hp) (D : Ends) (x : V) (v : Value), Inv X pins σ H s → RelV x v → t x D σ H →
    wpAny (model X.prog X.w) X.A (matchCases cs X.env v first) (SP X pins D) X.xe s
section
variable {X : Cx}
/-- case _: -/
theorem pm_any {body : List Stmt} {rest : List MatchCase} {tb : TS} {p : Pos} (hb : PSs X body tb) : PM X (⟨.MatchAs none none p, none, body⟩ :: rest) (fun _ => tb) := by
  constructor
  intro first pins s σ H D x v I rx h
  refine wpAny_matchCases_cons (wpAny_matchPattern_Capture ?_)
  exact wpAny_assignInOrder_none (hb.run pins s σ H D I h)
/-- case 'c': the value is a text -/
def tArm (c : Str) (tb : TS) (tr : V → TS) : V → TS := fun x D σ H => ∃ z : Str, x = .str z ∧ (z = c → tb D σ H) ∧ (z ≠ c → tr x D σ H)
theorem pm_str {body : List Stmt} {rest : List MatchCase} {tb : TS} {tr : V → TS} {c : Str} {j : Nat} {p p2 : Pos} (hb : PSs X body tb) (hr : PM X rest tr) :
    PM X (⟨.MatchValue (.Constant (.str c) j p) p2, none, body⟩ :: rest) (tArm c tb tr) := by
  constructor
  intro first pins s σ H D x v I rx h
  obtain ⟨z, rfl, h1, h2⟩ := h
  refine wpAny_matchCases_cons (wpAny_matchPattern_Value ?_)
  refine thn ((pe_str (X := X) (x := c) (j := j) (pos := p)).run pins s σ H (fun y H1 => y = .str c ∧ H1 = H) I ⟨rfl, rfl⟩) fun u s1 ⟨y, H1, I1, ry, e1, e2⟩ => ?_
  subst e1 e2
  refine thn (op_eq (X := X) pins s1 σ H1 (.str z) (.str c) v u (fun y H2 => y = .bl (decide (z = c)) ∧ H2 = H1) I1 rx ry ⟨rfl, ?_, rfl⟩) fun k s2 ⟨y, H2, I2, ry2, e1, e2⟩ => ?_
  · congr 1
    by_cases e : z = c
    · subst e
      simp
    · rw [decide_eq_false e, decide_eq_false (fun q => e (V.str.inj q))]
  subst e1 e2
  obtain rfl : k = Value.bool (decide (z = c)) := ry2
  refine wpAny_truthy_bool ?_
  by_cases e : z = c
  · rw [decide_eq_true e]
    exact wpAny_assignInOrder_none (hb.run pins s2 σ H2 D I2 (h1 e))
  · rw [decide_eq_false e]
    exact hr.run false pins s2 σ H2 D (.str z) v I2 rx (h2 e)
theorem ps_match {e : Expr} {cs : List MatchCase} {pos : Pos} {te : TE} {t : V → TS} (he : PE X e te) (hm : PM X cs t) : PS X (.Match e cs pos) (fun D σ H => te σ H fun x H1 => t x D σ H1) := by
  constructor
  intro pins s σ H D I h
  exact wpAny_Match (thn (he.run pins s σ H _ I h) fun v s1 ⟨x, H1, I1, rx, q⟩ => hm.run true pins s1 σ H1 D x v I1 rx q)
/-! ### a third power of a number below 2 ^ 200 -/
def CCube (i j : Int) : Prop := j = 3 ∧ i.natAbs < 2 ^ 200
theorem op_cube : OpR X (binaryOp .Pow) (rI CCube fun i j => .int (i ^ j.toNat)) := opI fun i j _ _ _ _ _ hc q => by
  obtain ⟨rfl, h2⟩ := hc
  refine pow_int (by decide) ?_ q
  have h3 := PySem.Flt.log2_lt_of (by decide : 0 < 200) h2
  have h4 : Builtin.Int.intBits i ≤ i.natAbs.log2 + 1 := by
    unfold Builtin.Int.intBits
    split <;> omega
  omega
end
end HT1
end partR1
section partR3
set_option Elab.async false
set_option linter.all false
set_option maxRecDepth 100000
/-! sorting of tuples of texts, the empty one among them; min with a default -/
namespace HT3
open PySem PySem.W PySem.Calls PyProof.Rows PySem.SeqAt
section
variable {prog : Program} {w : World} {A : Around} {E : Value → Shared → Prop} {s : Shared}
theorem ltTup {l b : Addr} {us ws : Array Value} {e r : Nat → Bool} {Q : Value → Shared → Prop} (hl : s.heap.IsTuple l us) (hb : s.heap.IsTuple b ws)
    (h1 : ∀ j (p : j < us.size) (q : j < ws.size), EqAt A.in1 s us[j] ws[j] (e j)) (h2 : ∀ j (p : j < us.size) (q : j < ws.size), e j = false → RcLt A.in1 s us[j] ws[j] (r j))
    (h : Q (.bool (firstLt e r (decide (us.size < ws.size)) (List.range (min us.size ws.size)))) s) : wpAny (model prog w) A (call (.builtin "tuple.__lt__") [.ref l, .ref b]) Q E s := by
  obtain ⟨⟨c1, d1, data1, sl1⟩, o1, k1, n1, e1⟩ := id hl
  obtain ⟨⟨c2, d2, data2, sl2⟩, o2, k2, n2, e2⟩ := id hb
  simp only at k1 e1 k2 e2
  subst k1 e1 k2 e2
  exact call_meets F.slot_tuple_lt ⟨_, o1, rfl⟩ F.entry_tuple_lt (F.args_tuple_lt_2 _ _) (tuple_ltAt l b us ws n1 n2 d1 d2 sl1 sl2 e r) ⟨o1, o2, h1, h2, h⟩
/-- one tuple against another, told that all keys are of one type -/
theorem oneTup {xs ys : List PyData} {a b : Value} {as bs : List Addr} {Q : Bool → Shared → Prop} (ra : Reads s.heap a (.tuple xs) as) (rb : Reads s.heap b (.tuple ys) bs) (hal : alikeAll xs ys = true)
    (hu : A.units + min (PyData.tuple xs).depth (PyData.tuple ys).depth < cLine) (hq : Q (dataLt (.tuple xs) (.tuple ys)) s) : wpAny (model prog w) A (oneLt' true a b) Q E s := by
  cases ra with
  | @tuple l o vs n _ as1 h1 h2 h3 h4 =>
    cases rb with
    | @tuple l' o' vs' n' _ bs1 k1 k2 k3 k4 =>
      have n1 : vs.size = xs.length := by simpa using ReadsAll.length _ _ _ h4
      have n2 : vs'.size = ys.length := by simpa using ReadsAll.length _ _ _ k4
      rw [dataLt_tuple, ← firstLt_toks xs ys hal, ← n1, ← n2] at hq
      rw [oneLt'_eq, if_pos rfl]
      refine wpAny_bind (wpAny_cRoomFor (room_here hu) (wpAny_bind (wpAny_callSpecialIfBound?_slot (T := "tuple") ⟨_, h1, h2⟩ F.slot_tuple_lt ?_)))
      refine ltTup (e := pairEq xs ys) (r := fun j => dataLt (xs.getD j .none) (ys.getD j .none)) ⟨_, h1, h2, _, h3⟩ ⟨_, k1, k2, _, k3⟩ (fun j p q => ?_) (fun j p q hj => ?_) (wpAny_truthy_bool hq)
      · have z := eqAt_alikeAll xs ys A.in1 s vs.toList vs'.toList _ _ h4 k4 hal (room_in hu) j (by simpa using p) (by simpa using q)
        simpa using z
      · have z := rcLt_alikeAll xs ys A.in1 s vs.toList vs'.toList _ _ h4 k4 hal (room_in hu) j (by simpa using p) (by simpa using q) hj
        simpa using z
/-- a tuple with an item -/
def filled : PyData → Bool
  | .tuple (_ :: _) => true
  | _ => false
/-- what stands first in each tuple -/
theorem firstsOf {M : Model} {R : List (Option Value) → Shared → Prop} : ∀ {vs : List Value} {ds : List PyData}, EachIs (fun v d => ∃ as, Reads s.heap v d as) vs ds → (∀ d, d ∈ ds → ∃ xs, d = .tuple xs) →
    (∀ fs : List (Option Value), fs.map Option.isSome = ds.map filled → R fs s) → wpAny M A (vs.mapM firstOfTuple') R E s
  | _, _, .nil, _, h => by
    rw [List.mapM_nil]
    exact wpAny_pure (h [] rfl)
  | v :: vs, d :: ds, .cons ⟨as, rd⟩ t, ht, h => by
    obtain ⟨xs, rfl⟩ := ht d List.mem_cons_self
    rw [List.mapM_cons, kas_first_eq]
    cases rd with
    | @tuple a o us n _ _ ho hc hd hr =>
      refine wpAny_bind (wpAny_bind (Looks.here (show Looks M s.heap (typeOf (.ref a)) o.cls from (Looks.ld ho).andThen .now) ?_))
      rw [hc, if_neg (by decide)]
      refine wpAny_bind (listItems_at ho hd (wpAny_pure ?_))
      refine wpAny_bind (firstsOf t (fun d hd => ht d (List.mem_cons_of_mem _ hd)) fun fs hf => wpAny_pure (h _ ?_))
      rw [List.map_cons, List.map_cons, hf]
      congr 1
      have hn : us.size = xs.length := by simpa using ReadsAll.length _ _ _ hr
      cases xs with
      | nil =>
        have z : us[0]? = none := Array.getElem?_eq_none (by simpa using hn)
        rw [z]
        rfl
      | cons x xs =>
        have hp : 0 < us.size := by rw [hn]; exact Nat.zero_lt_succ _
        rw [Array.getElem?_eq_getElem hp]
        rfl
theorem kindMix {M : Model} {Q : SortKind → Shared → Prop} {vs : List Value} {ds : List PyData} (h2 : 2 ≤ vs.length) (e : EachIs (fun v d => ∃ as, Reads s.heap v d as) vs ds) (ht : ∀ d, d ∈ ds → ∃ xs, d = .tuple xs)
    (hm : PyData.tuple [] ∈ ds) (h : Q (if (ds.head?.map filled).getD false then general' else oneType') s) : wpAny M A (keyKind' vs.toArray) Q E s := by
  rw [keyKind'_eq, List.mapM_toArray, map_eq_pure_bind]
  refine wpAny_bind (wpAny_bind (firstsOf e ht fun fs hf => wpAny_pure ?_))
  have hall : (fs.toArray.all fun x => x.isSome) = false := by
    cases q : fs.toArray.all fun x => x.isSome with
    | false => rfl
    | true =>
      exfalso
      rw [List.all_toArray] at q
      have q1 : ∀ b ∈ fs.map Option.isSome, b = true := by
        intro b hb
        obtain ⟨x, hx, rfl⟩ := List.mem_map.mp hb
        exact List.all_eq_true.mp q x hx
      rw [hf] at q1
      have z := q1 _ (List.mem_map.mpr ⟨_, hm, rfl⟩)
      exact Bool.noConfusion z
  rw [if_neg (by rw [hall]; decide)]
  cases ds with
  | nil => cases hm
  | cons d ds =>
    cases fs with
    | nil => simp at hf
    | cons f fs =>
      have hf1 : f.isSome = filled d := (List.cons.inj hf).1
      have hz : ((f :: fs).toArray[0]?.bind id).isSome = filled d := by
        rw [← hf1]
        simp
      have hh : (((d :: ds).head?.map filled).getD false) = filled d := rfl
      rw [hh] at h
      rw [hz]
      cases c : filled d with
      | false =>
        rw [c] at h
        simp only [Bool.false_eq_true, if_false] at h ⊢
        rw [oneTypeOnly'_eq, List.mapM_toArray, map_eq_pure_bind]
        refine wpAny_bind (wpAny_bind (wpAny_bind (kas_mapM (r := Value.type "tuple") _ (fun v hv Q' hq => ?_) (wpAny_pure ?_))))
        · obtain ⟨d', hd', as, r⟩ := e.left v hv
          obtain ⟨xs, rfl⟩ := ht d' hd'
          exact (looks_reads (M := M) r).here hq
        · obtain ⟨v, vs', rfl⟩ : ∃ v vs', vs = v :: vs' := by
            cases vs with
            | nil => simp at h2
            | cons v vs' => exact ⟨v, vs', rfl⟩
          have h0 : (List.map (fun _ => Value.type "tuple") (v :: vs')).toArray[0]? = some (Value.type "tuple") := by simp
          have ha : ((List.map (fun _ => Value.type "tuple") (v :: vs')).toArray.all fun x => x == Value.type "tuple") = true := by
            rw [List.all_toArray, List.all_map, List.all_eq_true]
            intro _ _
            rfl
          rw [h0]
          simp only [ha, if_true]
          exact wpAny_pure (wpAny_pure h)
      | true =>
        rw [c, if_pos rfl] at h
        rw [if_pos rfl]
        exact wpAny_pure h
/-- alike tuples, the empty one among them or not, can be sorted -/
theorem sortsTups {vs : List Value} {ds : List PyData} (e : EachIs (fun v d => ∃ as, Reads s.heap v d as) vs ds) (hal : AllAlike ds) (ht : ∀ d, d ∈ ds → ∃ xs, d = .tuple xs) (hu : ∀ d, d ∈ ds → A.units + d.depth < cLine) :
    SortsAt prog w A s (dataKind s.heap ds) vs := by
  by_cases hm : PyData.tuple [] ∈ ds
  · refine ⟨fun v hv => ?_, if (ds.head?.map filled).getD false then general' else oneType', ?_, fun h2 E Q hq => kindMix h2 e ht hm hq⟩
    · obtain ⟨d, hd, as, r⟩ := e.left v hv
      exact ⟨_, dataKind_some hal hd r⟩
    · intro E x y a b Q ha hb hq
      obtain ⟨d, as, hd, ra, rfl⟩ := dataKind_inv ha
      obtain ⟨d', as', hd', rb, rfl⟩ := dataKind_inv hb
      have room : A.units + min d.depth d'.depth < cLine := Nat.lt_of_le_of_lt (Nat.add_le_add_left (Nat.min_le_left _ _) _) (hu d hd)
      have hdd := hal d hd d' hd'
      split
      · show wpAny (model prog w) A (oneLt' false x y) Q E s
        exact oneLt_alike (fun z => nomatch z) ra rb hdd (by obtain ⟨xs, rfl⟩ := ht d hd; exact fun z => nomatch z) room hq
      · rw [keyLt'_oneType]
        obtain ⟨xs, rfl⟩ := ht d hd
        obtain ⟨ys, rfl⟩ := ht d' hd'
        exact oneTup ra rb (by simpa [alike] using hdd) room hq
  · refine SortsAt.data e hal (.inl fun d hd => ?_) hu
    obtain ⟨xs, rfl⟩ := ht d hd
    cases xs with
    | nil => exact absurd hd hm
    | cons x r => exact ⟨x, r, rfl⟩
end
end HT3
end partR3
section partR4
set_option Elab.async false
set_option linter.all false
set_option maxRecDepth 100000
set_option maxHeartbeats 1000000
/-! a set whose members are nested tuples of texts -/
namespace HT4
open PySem PySem.Spec PyProof.Rows L2
section
variable {P : Program} {w : World} {A : Around} {E : Value → Shared → Prop} {s : Shared}
/-! ### what the model asks of a key -/
mutual
theorem byVal : ∀ (k : NestedKey) (v : Value) (n : Nat) (Q : Bool → Shared → Prop), NestedIs s.heap k v → (∀ b, Q b s) → wpAny (model P w) A (hashByValue n v) Q E s
  | .none, _, n, Q, x, h => by
    cases x
    cases n <;> exact wpAny_pure (h _)
  | .num i, _, n, Q, x, h => by
    cases x <;> cases n <;> exact wpAny_pure (h _)
  | .text y, _, n, Q, x, h => by
    cases x
    cases n <;> exact wpAny_pure (h _)
  | .tup ks, _, 0, Q, x, h => by
    cases x
    exact wpAny_pure (h _)
  | .tup ks, _, n + 1, Q, x, h => by
    cases x with
    | @tup a o vs m _ ho hc hd hk =>
      unfold hashByValue
      refine wpAny_bind (wpAny_specialOf ⟨o, ho, hc⟩ F.slot_tuple_hash.lookup ?_)
      show wpAny _ _ (seqItems? (.ref a) >>= _) _ _ s
      refine wpAny_bind (wpAny_seqItems ho hd ?_)
      refine wpAny_bind ?_
      show wpAny _ _ (forIn vs _ _) _ _ s
      rw [← Array.forIn_toList]
      refine byVals ks vs.toList n _ _ hk (fun r => ?_)
      obtain ⟨r1, r2⟩ := r
      cases r1 <;> exact wpAny_pure (h _)
theorem byVals : ∀ (ks : List NestedKey) (vs : List Value) (n : Nat) (b : Option Bool × Unit) (Q : Option Bool × Unit → Shared → Prop), NestedAll s.heap ks vs → (∀ r, Q r s) →
    wpAny (model P w) A (forIn vs b fun x _ => do
      let c ← hashByValue n x
      if (!c) = true then pure (ForInStep.done (some false, ())) else pure (ForInStep.yield (none, ()))) Q E s
  | [], _, n, b, Q, x, h => by
    cases x
    exact wpAny_pure (h _)
  | k :: ks, _, n, b, Q, x, h => by
    cases x with
    | cons x1 x2 =>
      rw [List.forIn_cons]
      refine wpAny_bind (wpAny_bind (byVal k _ n _ x1 fun c => ?_))
      cases c with
      | false => exact wpAny_pure (wpAny_pure (h _))
      | true => exact wpAny_pure (byVals ks _ n _ Q x2 h)
end
mutual
theorem noCls : ∀ (k : NestedKey) (v : Value) (n : Nat) (Q : Bool → Shared → Prop), NestedIs s.heap k v → k.depth ≤ n → Q false s → wpAny (model P w) A (ofAClassStatement n v) Q E s
  | .none, _, n, Q, x, _, h => by
    cases x
    cases n <;> exact wpAny_pure h
  | .num i, _, n, Q, x, _, h => by
    cases x <;> cases n <;> exact wpAny_pure h
  | .text y, _, n, Q, x, _, h => by
    cases x
    cases n <;> exact wpAny_pure h
  | .tup ks, _, 0, Q, x, hn, h => absurd hn (by simp [NestedKey.depth])
  | .tup ks, _, n + 1, Q, x, hn, h => by
    cases x with
    | @tup a o vs m _ ho hc hd hk =>
      unfold ofAClassStatement
      refine wpAny_bind (wpAny_typeOf ⟨o, ho, hc⟩ ?_)
      dsimp only
      rw [if_pos (by decide : (("tuple" : String) == "tuple") = true)]
      refine wpAny_bind (wpAny_pure ?_)
      rw [if_neg (by decide)]
      try refine wpAny_bind (wpAny_pure ?_)
      show wpAny _ _ (seqItems? (.ref a) >>= _) _ _ s
      refine wpAny_bind (wpAny_seqItems ho hd ?_)
      dsimp only
      refine wpAny_bind ?_
      show wpAny _ _ (forIn vs _ _) _ _ s
      rw [← Array.forIn_toList]
      exact noClss ks vs.toList n _ _ hk (by simp only [NestedKey.depth] at hn; omega) rfl (wpAny_pure h)
theorem noClss : ∀ (ks : List NestedKey) (vs : List Value) (n : Nat) (b : Option Bool × Unit) (Q : Option Bool × Unit → Shared → Prop), NestedAll s.heap ks vs → NestedKey.depthAll ks ≤ n → b = (none, ()) → Q (none, ()) s →
    wpAny (model P w) A (forIn vs b fun x _ => do
      let c ← ofAClassStatement n x
      if c = true then pure (ForInStep.done (some true, ())) else pure (ForInStep.yield (none, ()))) Q E s
  | [], _, n, b, Q, x, _, hb, h => by
    cases x
    subst hb
    exact wpAny_pure h
  | k :: ks, _, n, b, Q, x, hn, hb, h => by
    cases x with
    | cons x1 x2 =>
      simp only [NestedKey.depthAll] at hn
      rw [List.forIn_cons]
      refine wpAny_bind (wpAny_bind (noCls k _ n _ x1 (by omega) ?_))
      exact wpAny_pure (noClss ks _ n _ Q x2 (by omega) rfl h)
end
/-- a key of texts that a set may hold: at the address p.1 stands the key p.2 -/
structure KeyAt (h : Heap) (p : Addr × NestedKey) : Prop where
  is : NestedIs h p.2 (.ref p.1)
  dp : p.2.depth ≤ 8
theorem notSeen {b : Addr} {k : NestedKey} {Q : Bool → Shared → Prop} (hk : KeyAt s.heap (b, k)) : ∀ (ys : List Value), (∀ y ∈ ys, ∃ p, y = Value.ref p.1 ∧ KeyAt s.heap p) → Q false s → wpAny (model P w) A (searchCouldBeSeen (.ref b) ys) Q E s := by
  intro ys hy h
  unfold searchCouldBeSeen
  refine wpAny_bind ?_
  refine wpAny_forIn_list _ (fun rest r s' => r.1 = none ∧ s' = s ∧ ∀ y ∈ rest, ∃ p, y = Value.ref p.1 ∧ KeyAt s.heap p) _ ?_ ?_ _ _ ⟨rfl, rfl, hy⟩
  · rintro v rest r s' ⟨hr, rfl, hall⟩
    obtain ⟨p, rfl, hp⟩ := hall v List.mem_cons_self
    have more : ∀ y ∈ rest, ∃ p, y = Value.ref p.1 ∧ KeyAt s'.heap p := fun u hu' => hall u (List.mem_cons_of_mem _ hu')
    dsimp only
    by_cases hv : (b == p.1 || (carriedByValue (.ref b) && carriedByValue (.ref p.1))) = true
    · exact wp_if_pos hv (wpAny_pure ⟨rfl, rfl, more⟩)
    · refine wp_if_neg hv ?_
      refine wpAny_bind (quiet_key k (.ref b) 8 s' hk.is hk.dp A _ _ ?_)
      rw [if_neg (by decide)]
      try refine wpAny_bind (wpAny_pure ?_)
      refine wpAny_bind (quiet_key p.2 (.ref p.1) 8 s' hp.is hp.dp A _ _ ?_)
      rw [if_neg (by decide)]
      try refine wpAny_bind (wpAny_pure ?_)
      refine wpAny_bind (noCls k (.ref b) 8 _ hk.is hk.dp ?_)
      rw [if_neg (by decide)]
      try refine wpAny_bind (wpAny_pure ?_)
      refine wpAny_bind (noCls p.2 (.ref p.1) 8 _ hp.is hp.dp ?_)
      rw [if_neg (by decide)]
      try refine wpAny_bind (wpAny_pure ?_)
      exact wpAny_pure ⟨rfl, rfl, more⟩
  · rintro ⟨r1, r2⟩ s' ⟨hr, rfl, _⟩
    simp only at hr
    subst hr
    exact wpAny_pure h
end
end HT4
end partR4
section partR5
set_option Elab.async false
set_option linter.all false
set_option maxRecDepth 100000
set_option maxHeartbeats 2000000
namespace HT4
open PySem PySem.Spec PyProof.Rows L2
abbrev AK := Addr × NestedKey
def rowsN (w : World) (L : List AK) : List (Int × Value) := L.map fun p => (p.2.hash w, Value.ref p.1)
/-- the set at a holds the keys of L, each by its tuple -/
structure SN (w : World) (h : Heap) (a : Addr) (L : List AK) (es : Array (Int × Value)) (ep : Nat) (t : SetTable) : Prop where
  ob : ∃ o, h.get? a = some o ∧ o.ExactSet ∧ o.data = .set es ep t
  rows : es.toList = rowsN w L
  tab : TabOk t (L.map fun p => p.2.hash w)
  nd : (L.map (·.2)).Nodup
  led : w.params.followText "set-order" = true ∨ t.led = true
  room : L.length * 5 < t.mask * 3
  few : L.length < 64
section
variable {P : Program} {w : World} {A : Around} {E : Value → Shared → Prop} {s : Shared} {a : Addr} {L : List AK} {es : Array (Int × Value)} {ep : Nat} {t : SetTable}
theorem rowsN_len (h : es.toList = rowsN w L) : es.size = L.length := by
  have z := congrArg List.length h
  unfold rowsN at z
  simpa using z
theorem rowsN_at (h : es.toList = rowsN w L) {i : Nat} {p : AK} (e : L[i]? = some p) : es[i]? = some (p.2.hash w, Value.ref p.1) := by
  rw [← Array.getElem?_toList, h]
  unfold rowsN
  rw [List.getElem?_map, e]
  rfl
theorem SN.fits (R : SN w s.heap a L es ep t) : t.fits es.size = true := by
  have z1 := R.tab.sz
  have z2 := rowsN_len R.rows
  have z3 := R.room
  rw [List.length_map] at z1
  simp only [SetTable.fits, SetTable.fill, R.tab.dm, Bool.and_eq_true, beq_iff_eq, decide_eq_true_eq, List.size_toArray, List.length_nil]
  omega
theorem SN.whole (R : SN w s.heap a L es ep t) : ¬ t.gaveWay = true := by
  simp only [SetTable.gaveWay, mask_odd R.tab.mok]
  decide
/-- the c-th place that is looked at for the hash h -/
abbrev pr (t : SetTable) (h : Int) (c : Nat) : SetTable.Probe := nth t.mask (runAt t.mask (SetTable.bits h % (t.mask + 1)) (SetTable.bits h)) c
theorem pr_dummy (t : SetTable) (h : Int) (c : Nat) : (pr t h c).dummy = none := by
  have key : ∀ (n : Nat) (p : SetTable.Probe), p.dummy = none → (nth t.mask p n).dummy = none := by
    intro n
    induction n with
    | zero => intro p e; exact e
    | succ n ih =>
      intro p e
      refine ih (adv t.mask p) ?_
      unfold adv
      split <;> exact e
  exact key c _ rfl
theorem pr_add (t : SetTable) (h : Int) (c q : Nat) : nth t.mask (pr t h c) q = pr t h (c + q) := (nth_add t.mask c _ q).symm
/-- the search, from the c-th place on -/
theorem lookFrom (R : SN w s.heap a L es ep t) (hK : ∀ p ∈ L, KeyAt s.heap p) {x : Addr} {k : NestedKey} (hx : KeyAt s.heap (x, k)) (hu : A.units + 8 < cLine) {N : Nat} (hN : N < 10 * SetTable.turns t.mask)
    (free : way t.mask (k.hash w) N ∉ t.place.toList) (full : ∀ c, c < N → way t.mask (k.hash w) c ∈ t.place.toList) {Q : SetFound → Shared → Prop}
    (hin : k ∈ L.map (·.2) → Q (.there none) s) (hout : k ∉ L.map (·.2) → Q (.free (way t.mask (k.hash w) N) false) s) :
    ∀ (f c : Nat) (stand : Option SetTable.Probe), stand.getD (t.probeStart (k.hash w)) = pr t (k.hash w) c → c ≤ N → N - c < f →
      (∀ (i : Nat) p, L[i]? = some p → p.2 = k → ∃ c', c ≤ c' ∧ c' < N ∧ t.place.toList[i]? = some (way t.mask (k.hash w) c')) →
      wpAny (model P w) A (setSearchFrom a (.ref x) (k.hash w) true f stand) Q E s := by
  intro f
  induction f with
  | zero => intro c stand _ _ hf _; exact absurd hf (Nat.not_lt_zero _)
  | succ f ih =>
    intro c stand hst hc hf hre
    obtain ⟨o, ho, hex, hd⟩ := R.ob
    have ew : ∀ q, (nth t.mask (pr t (k.hash w) c) q).j = way t.mask (k.hash w) (c + q) := fun q => congrArg SetTable.Probe.j (pr_add t _ c q)
    rw [setSearchFrom_succ]
    refine wpAny_bind (wpAny_setState_of ho hd R.fits ?_)
    dsimp only
    refine wp_if_neg R.whole ?_
    try refine wpAny_bind (wpAny_pure ?_)
    have spec := go_spec t R.tab.ris R.tab.dm (fun i => (es[i]?.map (·.1)).getD 0) (k.hash w) (10 * SetTable.turns t.mask) (N - c) _ (pr_dummy t (k.hash w) c) (by omega)
      (fun q hq => by rw [ew]; exact full (c + q) (by omega)) (by rw [ew, show c + (N - c) = N by omega]; exact free)
    have hashAt : ∀ (i : Nat) p, L[i]? = some p → (es[i]?.map (·.1)).getD 0 = p.2.hash w := fun i p hp => by
      rw [rowsN_at R.rows hp]
      rfl
    rcases spec with ⟨q, i, hq, hi, hh, hno, hpr⟩ | ⟨hno, hpr⟩
    · have met : t.probe (fun i => (es[i]?.map (·.1)).getD 0) (k.hash w) (stand.getD (t.probeStart (k.hash w))) = some (.candidate (way t.mask (k.hash w) (c + q)) i (pr t (k.hash w) (c + (q + 1)))) := by
        rw [hst, ← ew, ← pr_add]
        exact hpr
      rw [met]
      dsimp only
      rw [ew] at hi
      have hil : i < L.length := by
        have z1 := (List.getElem?_eq_some_iff.mp hi).1
        have z2 := R.tab.sz
        rw [List.length_map] at z2
        rw [Array.length_toList] at z1
        omega
      obtain ⟨p, hp⟩ : ∃ p, L[i]? = some p := ⟨_, List.getElem?_eq_getElem hil⟩
      have hmem : p ∈ L := List.mem_of_getElem? hp
      have hslot : t.slot (way t.mask (k.hash w) (c + q)) = .live i := slot_live R.tab.ris hi
      have tail : wpAny (model P w) A (searchRest a (.ref x) (k.hash w) true f es t (way t.mask (k.hash w) (c + q)) i (pr t (k.hash w) (c + (q + 1)))) Q E s := by
        unfold searchRest
        rw [rowsN_at R.rows hp]
        dsimp only
        have m8 : A.units + min p.2.depth k.depth < cLine := by
          have := (hK p hmem).dp
          omega
        refine wpAny_bind (wpAny_holding (eqAt_key p.2 k A s (.ref p.1) (.ref x) (hK p hmem).is hx.is m8 P w _ _ ?_))
        rw [← NestedKey.decide_eq]
        refine wpAny_bind (wpAny_setState_of ho hd R.fits ?_)
        dsimp only
        by_cases hkk : p.2 = k
        · refine wp_if_pos (by simp [hkk]) (wpAny_pure (hin ?_))
          exact List.mem_map.mpr ⟨p, hmem, hkk⟩
        · refine wp_if_neg (by simp [hkk]) ?_
          try refine wpAny_bind (wpAny_pure ?_)
          rw [sameMem]
          dsimp only
          simp only [if_true, hslot, rowsN_at R.rows hp]
          refine wpAny_bind (wpAny_isSame_ref_self (wpAny_bind (wpAny_pure ?_)))
          simp only [if_true]
          refine wp_if_neg (by simp [hkk]) ?_
          refine ih (c + (q + 1)) _ rfl (by omega) (by omega) fun i0 p0 h0 hk0 => ?_
          obtain ⟨c', a1, a2, a3⟩ := hre i0 p0 h0 hk0
          refine ⟨c', ?_, a2, a3⟩
          rcases Nat.lt_trichotomy c' (c + q) with z | z | z
          · exfalso
            refine hno (c' - c) i0 (by omega) (by rw [ew, show c + (c' - c) = c' by omega]; exact a3) ?_
            rw [hashAt i0 p0 h0, hk0]
          · exfalso
            rw [z] at a3
            have s0 := slot_live R.tab.ris a3
            rw [hslot] at s0
            injection s0 with s0
            rw [← s0, hp] at h0
            cases h0
            exact hkk hk0
          · omega
      by_cases hl : t.led = true
      · refine wp_if_neg (by simp [hl]) ?_
        try refine wpAny_bind (wpAny_pure ?_)
        exact tail
      · refine wp_if_pos (by simp [hl]) (wpAny_bind (notSeen hx _ (fun y hy => ?_) ?_))
        · obtain ⟨e, he, ee⟩ := List.mem_map.mp hy
          have he0 : e ∈ es ∧ e.1 = k.hash w := by simpa using he
          have he1 : e ∈ es.toList := by simpa using he0.1
          rw [R.rows] at he1
          obtain ⟨p2, hp2, e2⟩ := List.mem_map.mp he1
          exact ⟨p2, by rw [← ee, ← e2], hK p2 hp2⟩
        · refine wp_if_neg (by decide) ?_
          try refine wpAny_bind (wpAny_pure ?_)
          exact tail
    · have met : t.probe (fun i => (es[i]?.map (·.1)).getD 0) (k.hash w) (stand.getD (t.probeStart (k.hash w))) = some (.empty (way t.mask (k.hash w) N) none) := by
        have e2 : way t.mask (k.hash w) N = (nth t.mask (pr t (k.hash w) c) (N - c)).j := by rw [ew, show c + (N - c) = N by omega]
        rw [hst, e2]
        exact hpr
      rw [met]
      dsimp only
      refine wpAny_pure (hout fun hm => ?_)
      obtain ⟨p0, h0, hk0⟩ := List.mem_map.mp hm
      obtain ⟨i0, hi0, e0⟩ := List.getElem_of_mem h0
      have h00 : L[i0]? = some p0 := by rw [List.getElem?_eq_getElem hi0, e0]
      obtain ⟨c', a1, a2, a3⟩ := hre i0 p0 h00 hk0
      refine hno (c' - c) i0 (by omega) (by rw [ew, show c + (c' - c) = c' by omega]; exact a3) ?_
      rw [hashAt i0 p0 h00, hk0]
theorem lookAt (R : SN w s.heap a L es ep t) (hK : ∀ p ∈ L, KeyAt s.heap p) {x : Addr} {k : NestedKey} (hx : KeyAt s.heap (x, k)) (hu : A.units + 8 < cLine) {Q : SetFound → Shared → Prop}
    (hin : k ∈ L.map (·.2) → Q (.there none) s)
    (hout : ∀ N, k ∉ L.map (·.2) → way t.mask (k.hash w) N ∉ t.place.toList → (∀ c, c < N → way t.mask (k.hash w) c ∈ t.place.toList) → Q (.free (way t.mask (k.hash w) N) false) s) :
    wpAny (model P w) A (setSearch a (.ref x) (k.hash w) true) Q E s := by
  have hroom := R.room
  obtain ⟨N, hN, free, full⟩ := R.tab.first (by rw [List.length_map]; omega) (k.hash w)
  have big : N < 100000 := by
    have : 10 * SetTable.turns t.mask ≤ 1420 := by
      unfold SetTable.turns
      rcases R.tab.mok with e | e | e <;> omega
    omega
  unfold setSearch
  refine lookFrom R hK hx hu hN free full hin (fun hn => hout N hn free full) 100000 0 none rfl (Nat.zero_le _) (by omega) fun i p hp hk => ?_
  have z1 : (L.map fun p => p.2.hash w)[i]? = some (k.hash w) := by
    rw [List.getElem?_map, hp, ← hk]
    rfl
  have z2 : i < t.place.toList.length := by
    have z3 := (List.getElem?_eq_some_iff.mp hp).1
    have z4 := R.tab.sz
    rw [List.length_map] at z4
    rw [Array.length_toList]
    omega
  obtain ⟨c, hc, e⟩ := R.tab.before free z1 (List.getElem?_eq_getElem z2)
  exact ⟨c, Nat.zero_le _, hc, by rw [List.getElem?_eq_getElem z2, e]⟩
/-- a tuple isn't the set -/
theorem KeyAt.same {h h' : Heap} {p : AK} {a : Addr} {o : Obj} {es : Array (Int × Value)} {ep : Nat} {t : SetTable} (x : KeyAt h p) (ho : h.get? a = some o) (hd : o.data = .set es ep t) (hs : Heap.SameBut a h h') : KeyAt h' p := by
  refine ⟨NestedIs.at (fun b ob vs n e d => ?_) _ _ x.is, x.dp⟩
  have hne : b ≠ a := by
    rintro rfl
    rw [ho] at e
    cases e
    rw [hd] at d
    cases d
  exact (hs.2 b hne).trans e
theorem KeyAt.keep {h h' : Heap} {p : AK} (x : KeyAt h p) (hk : ∀ c o, h.get? c = some o → h'.get? c = some o) : KeyAt h' p := ⟨NestedIs.at (fun b ob vs n e _ => hk b ob e) _ _ x.is, x.dp⟩
theorem midPerm {α : Type} (L : List α) (p : Nat) (x : α) : (L.take p ++ x :: L.drop p).Perm (x :: L) := by
  have h : (L.take p ++ x :: L.drop p).Perm (x :: (L.take p ++ L.drop p)) := List.perm_middle
  rwa [List.take_append_drop] at h
theorem pickRange {α : Type} (L : List α) : (List.range L.length).filterMap (fun i => L[i]?) = L := by
  have key : ∀ n, n ≤ L.length → (List.range n).filterMap (fun i => L[i]?) = L.take n := by
    intro n
    induction n with
    | zero => intro _; rfl
    | succ n ih =>
      intro hn
      have hlt : n < L.length := hn
      rw [List.range_succ, List.filterMap_append, ih (Nat.le_of_lt hlt), List.take_succ, List.getElem?_eq_getElem hlt, List.filterMap_cons_some (List.getElem?_eq_getElem hlt)]
      rfl
  rw [key L.length (Nat.le_refl _), List.take_length]
/-- the rows in another order -/
theorem reorder (es : Array (Int × Value)) (hr : es.toList = rowsN w L) (order : Array Nat) (hp : order.toList.Perm (List.range L.length)) :
    ∃ L2, (order.filterMap (es[·]?)).toList = rowsN w L2 ∧ L2.Perm L ∧ (L2.map fun p => p.2.hash w) = order.toList.map fun i => (es.map (·.1)).getD i 0 := by
  have hlt : ∀ i ∈ order.toList, i < L.length := fun i hi => List.mem_range.mp (hp.mem_iff.mp hi)
  have key : ∀ l : List Nat, (∀ i ∈ l, i < L.length) → l.filterMap (fun i => es[i]?) = rowsN w (l.filterMap fun i => L[i]?) ∧ ((l.filterMap fun i => L[i]?).map fun p => p.2.hash w) = l.map fun i => (es.map (·.1)).getD i 0 := by
    intro l
    induction l with
    | nil => intro _; exact ⟨rfl, rfl⟩
    | cons i l ih =>
      intro hl
      have hi := hl i List.mem_cons_self
      obtain ⟨e1, e2⟩ := ih fun j hj => hl j (List.mem_cons_of_mem _ hj)
      have e3 := rowsN_at hr (List.getElem?_eq_getElem hi)
      have e4 : (es.map (·.1)).getD i 0 = (L[i]).2.hash w := by
        have e5 : (es.map (·.1))[i]? = some ((L[i]).2.hash w) := by
          rw [Array.getElem?_map, e3]
          rfl
        simp [Array.getD_eq_getD_getElem?, e5]
      rw [List.filterMap_cons_some e3, List.filterMap_cons_some (List.getElem?_eq_getElem hi), e1, List.map_cons, List.map_cons, e2, e4]
      exact ⟨rfl, rfl⟩
  obtain ⟨e1, e2⟩ := key order.toList hlt
  refine ⟨order.toList.filterMap fun i => L[i]?, by simpa using e1, ?_, e2⟩
  have z : (order.toList.filterMap fun i => L[i]?).Perm ((List.range L.length).filterMap fun i => L[i]?) := hp.filterMap _
  rwa [pickRange] at z
/-- the table laid anew, larger -/
theorem grow {o : Obj} (ho : s.heap.get? a = some o) (hex : o.ExactSet) (hd : o.data = .set es ep t) (hrows : es.toList = rowsN w L) (hsz : t.place.size = es.size) (hdm : t.dummies = #[]) (hfl : es.size ≤ t.mask)
    (nd : (L.map (·.2)).Nodup) (ld : w.params.followText "set-order" = true ∨ t.led = true) (few : L.length < 64) {wanted M : Nat}
    (hw : SetTable.sizeAbove wanted - 1 = M) (hM : MaskOk M) (hw2 : SetTable.sizeAbove wanted ≤ 128) (hn : L.length * 5 < M * 3) {Q : Unit → Shared → Prop}
    (hQ : ∀ h' L' es' ep' t', Heap.SameBut a s.heap h' → SN w h' a L' es' ep' t' → L'.Perm L → Q () { s with heap := h' }) : wpAny (model P w) A (setRelay a wanted) Q E s := by
  have hsl := rowsN_len hrows
  have hfits : t.fits es.size = true := by
    simp only [SetTable.fits, SetTable.fill, hdm, Bool.and_eq_true, beq_iff_eq, decide_eq_true_eq, List.size_toArray, List.length_nil]
    omega
  obtain ⟨t', order, e, hp, T, em, el, _, ed⟩ := relaid_ok t (hs := es.map (·.1)) (wanted := wanted) hw hM (by rw [Array.size_map, hsl]; omega)
  rw [Array.size_map, hsl] at hp
  obtain ⟨L2, r1, r2, r3⟩ := reorder es hrows order hp
  rw [← r3] at T
  have hs2 : (order.filterMap (es[·]?)).size = es.size := by rw [rowsN_len r1, r2.length_eq, hsl]
  rw [setRelay_eq]
  refine wpAny_bind (wpAny_setState_of ho hd hfits ?_)
  dsimp only
  refine wp_if_neg (by rw [sizeLine_eq]; omega) ?_
  try refine wpAny_bind (wpAny_pure ?_)
  rw [e]
  dsimp only
  refine wpAny_bind (wp_if_neg (by rw [hs2]; simp) ?_)
  try refine wpAny_bind (wpAny_pure ?_)
  refine wpAny_pure ?_
  dsimp only
  refine wpAny_storeSet_of ho hd ?_ (by rw [hs2, hsl, sizeLine_eq]; omega)
  refine hQ _ L2 (order.filterMap (es[·]?)) (ep + 1) t' (Heap.SameBut.update ..) ⟨⟨_, store_at ho hd, ⟨hex.1, hex.2.1, hex.2.2⟩, rfl⟩, r1, T, (r2.map (·.2)).nodup_iff.mpr nd, by rw [el]; exact ld, ?_, by rw [r2.length_eq]; exact few⟩ r2
  rw [r2.length_eq, em]
  exact hn
/-- one key put in -/
theorem putIn (R : SN w s.heap a L es ep t) (hK : ∀ p ∈ L, KeyAt s.heap p) {x : Addr} {k : NestedKey} (hx : KeyAt s.heap (x, k)) (hu : A.units + 8 < cLine) (hfew : L.length + 1 < 64) {Q : Bool → Shared → Prop}
    (hQ : ∀ b h' L' es' ep' t', Heap.SameBut a s.heap h' → SN w h' a L' es' ep' t' → (k ∈ L.map (·.2) → L' = L) → (k ∉ L.map (·.2) → L'.Perm ((x, k) :: L)) → Q b { s with heap := h' }) :
    wpAny (model P w) A (setAddHashed a (.ref x) (k.hash w)) Q E s := by
  obtain ⟨o, ho, hex, hd⟩ := R.ob
  have hsl := rowsN_len R.rows
  have hroom := R.room
  unfold setAddHashed
  refine wpAny_holding ?_
  rw [show (100000 : Nat) = 99999 + 1 from rfl, setAddHashedIn_succ]
  refine wpAny_bind (wpAny_setState_of ho hd R.fits ?_)
  dsimp only
  refine wp_if_neg (by simp [byScan, Value.scannable]) ?_
  try refine wpAny_bind (wpAny_pure ?_)
  refine wpAny_bind (lookAt R hK hx hu (fun hm => ?_) fun N hm free full => ?_)
  · dsimp only
    exact wpAny_pure (hQ false s.heap L es ep t (Heap.SameBut.refl a s.heap) R (fun _ => rfl) fun z => absurd hm z)
  dsimp only
  refine wpAny_bind (wpAny_setState_of ho hd R.fits ?_)
  dsimp only
  obtain ⟨q1, q2, q3, q4, q5, q6, q7, q8, q9⟩ := R.tab.put free full
  generalize hpt : t.put (way t.mask (k.hash w) N) = pt at q1 q3 q4 q5 q6 q7 q8 q9 ⊢
  obtain ⟨t1, p⟩ := pt
  dsimp only at q1 q3 q4 q5 q6 q7 q8 q9 ⊢
  subst q1
  have hin : (SetTable.insertAt es (SetTable.below t.place (way t.mask (k.hash w) N)) (k.hash w, Value.ref x)).toList = rowsN w (L.take (SetTable.below t.place (way t.mask (k.hash w) N)) ++ (x, k) :: L.drop (SetTable.below t.place (way t.mask (k.hash w) N))) := by
    rw [SetTable.toList_insertAt, R.rows]
    unfold rowsN
    rw [List.map_append, List.map_cons, List.map_take, List.map_drop]
  generalize hpp : SetTable.below t.place (way t.mask (k.hash w) N) = p at q2 q3 hin ⊢
  have pm := midPerm L p (x, k)
  have hlen : (L.take p ++ (x, k) :: L.drop p).length = L.length + 1 := pm.length_eq
  have hhs : (L.take p ++ (x, k) :: L.drop p).map (fun p => p.2.hash w) = (L.map fun p => p.2.hash w).take p ++ k.hash w :: (L.map fun p => p.2.hash w).drop p := by
    rw [List.map_append, List.map_cons, List.map_take, List.map_drop]
  rw [← hhs] at q3
  have nd1 : ((L.take p ++ (x, k) :: L.drop p).map (·.2)).Nodup := (pm.map (·.2)).nodup_iff.mpr (List.nodup_cons.mpr ⟨hm, R.nd⟩)
  have hes : (SetTable.insertAt es p (k.hash w, Value.ref x)).size = L.length + 1 := by rw [rowsN_len hin, hlen]
  generalize SetTable.insertAt es p (k.hash w, Value.ref x) = es1 at hin hes ⊢
  generalize L.take p ++ (x, k) :: L.drop p = L1 at pm hlen q3 nd1 hin
  -- the rest, whatever 'plain' says
  have rest : ∀ t2 : SetTable, TabOk t2 (L1.map fun p => p.2.hash w) → t2.mask = t1.mask → t2.led = t1.led → t2.fill = t1.fill → t2.place = t1.place →
      wpAny (model P w) A (do
        storeSet a es1 t2
        if (!false && t2.tooFull) = true then setRelay a (SetTable.grown (es.size + 1))
        return true) Q E s := by
    intro t2 T2 m2 l2 f2 p2
    refine wpAny_bind (wpAny_storeSet_of ho hd ?_ (by rw [hes, sizeLine_eq]; omega))
    have sb : Heap.SameBut a s.heap (s.heap.update a (Obj.putSet es1 t2)) := Heap.SameBut.update ..
    have ho1 := store_at (es' := es1) (t' := t2) ho hd
    generalize s.heap.update a (Obj.putSet es1 t2) = h1 at sb ho1 ⊢
    have ld1 : w.params.followText "set-order" = true ∨ t2.led = true := by rw [l2, q5]; exact R.led
    by_cases hf : t2.tooFull = true
    · have hfull : (L.length + 1) * 5 ≥ t1.mask * 3 := by
        have h := hf
        unfold SetTable.tooFull at h
        rw [decide_eq_true_eq, f2, m2, q9, List.length_map] at h
        exact h
      rw [if_pos (by simp [hf]), hsl]
      have hsz1 : t2.place.size = es1.size := by
        have h := T2.sz
        rw [List.length_map, hlen] at h
        rw [h, hes]
      have two : (t.mask = 7 ∧ L.length = 4) ∨ (t.mask = 31 ∧ L.length = 18) := by
        rcases R.tab.mok with e | e | e
        · left; rw [q4, e] at hfull; rw [e] at hroom; exact ⟨e, by omega⟩
        · right; rw [q4, e] at hfull; rw [e] at hroom; exact ⟨e, by omega⟩
        · exfalso; rw [q4, e] at hfull; omega
      have go : ∀ M, SetTable.sizeAbove (SetTable.grown (L.length + 1)) - 1 = M → MaskOk M → SetTable.sizeAbove (SetTable.grown (L.length + 1)) ≤ 128 → (L.length + 1) * 5 < M * 3 →
          wpAny (model P w) A (setRelay a (SetTable.grown (L.length + 1))) (fun _ s' => wpAny (model P w) A (pure true) Q E s') E { s with heap := h1 } := fun M g1 g2 g3 g4 => by
        refine grow (s := { s with heap := h1 }) ho1 ⟨hex.1, hex.2.1, hex.2.2⟩ rfl hin hsz1 T2.dm (by rw [hes, m2, q4]; rcases two with ⟨e, e2⟩ | ⟨e, e2⟩ <;> omega) nd1 ld1 (by rw [hlen]; exact hfew) g1 g2 g3 (by rw [hlen]; exact g4) ?_
        intro h2 L2 es2 ep2 t3 sb2 R2 pm2
        exact wpAny_pure (hQ true h2 L2 es2 ep2 t3 (sb.trans sb2) R2 (fun z => absurd z hm) fun _ => pm2.trans pm)
      refine wpAny_bind ?_
      rcases two with ⟨_, e2⟩ | ⟨_, e2⟩
      · exact go 31 (by rw [e2, size_20]) (.inr (.inl rfl)) (by rw [e2, size_20]; decide) (by omega)
      · exact go 127 (by rw [e2, size_76]) (.inr (.inr rfl)) (by rw [e2, size_76]; decide) (by omega)
    · rw [if_neg (by simp [hf])]
      try refine wpAny_bind (wpAny_pure ?_)
      refine wpAny_pure (hQ true h1 L1 es1 (ep + 1) t2 sb ⟨⟨_, ho1, ⟨hex.1, hex.2.1, hex.2.2⟩, rfl⟩, hin, T2, nd1, ld1, ?_, by rw [hlen]; exact hfew⟩ (fun z => absurd z hm) fun _ => pm)
      have h := hf
      unfold SetTable.tooFull at h
      rw [decide_eq_true_eq, f2, m2, q9, List.length_map] at h
      rw [hlen, m2]
      omega
  have both : ∀ c : Bool, TabOk (if c = true then t1 else { t1 with plain := false }) (L1.map fun p => p.2.hash w) := fun c => by
    cases c
    · exact ⟨q3.ris, q3.dm, q3.sz, q3.mok, q3.bd, q3.reach⟩
    · exact q3
  have fin : ∀ c : Bool, wpAny (model P w) A (do
        storeSet a es1 (if c = true then t1 else { t1 with plain := false })
        if (!false && (if c = true then t1 else { t1 with plain := false }).tooFull) = true then setRelay a (SetTable.grown (es.size + 1))
        return true) Q E s := fun c => rest _ (both c) (by cases c <;> rfl) (by cases c <;> rfl) (by cases c <;> rfl) (by cases c <;> rfl)
  split
  · exact wpAny_bind (byVal k (.ref x) 8 _ hx.is fun c => fin c)
  · exact wpAny_bind (wpAny_pure (fin true))
/-- set.add -/
theorem addKey (R : SN w s.heap a L es ep t) (hK : ∀ p ∈ L, KeyAt s.heap p) {x : Addr} {k : NestedKey} (hx : KeyAt s.heap (x, k)) (hu : A.units + 16 < cLine) (hfew : L.length + 1 < 64) {Q : Value → Shared → Prop}
    (hQ : ∀ h' tk L' es' ep' t', Heap.SameBut a s.heap h' → SN w h' a L' es' ep' t' → (k ∈ L.map (·.2) → L' = L) → (k ∉ L.map (·.2) → L'.Perm ((x, k) :: L)) → Q .none { s with heap := h', toks := tk }) :
    wpAny (model P w) A (call (.builtin "set.add") [.ref a, .ref x]) Q E s := by
  obtain ⟨o, ho, hex, hd⟩ := id R.ob
  refine wpAny_call_entry F.slot_set_add ⟨o, ho, hex.1⟩ F.entry_set_add ?_ (F.args_set_add_2 _ _)
  have hd8 : k.depth ≤ 8 := hx.dp
  have hu1 : A.in1.units = A.units + 1 := Around.in1_units A
  unfold Builtin.«set.add» Builtin.Frozenset.oneOther
  simp only [List.isEmpty_nil, bind_assoc]
  unfold Builtin.Frozenset.addrOf setAdd
  refine wpAny_bind (wpAny_pure ?_)
  try dsimp only
  refine wpAny_bind (wpAny_pure ?_)
  try dsimp only
  refine wpAny_bind (wpAny_holding (wpAny_bind (pyHash_key k (.ref x) _ s _ hx.is (by rw [hu1]; omega) ?_)))
  refine putIn (s := { s with toks := s.toks + k.draws }) R hK hx (by rw [hu1]; omega) hfew fun b h' L' es' ep' t' sb R' e1 e2 => ?_
  show wpAny _ _ (ret Value.none) _ _ _
  exact wpAny_pure ⟨_, rfl, hQ h' _ L' es' ep' t' sb R' e1 e2⟩
theorem SN.fresh {h : Heap} {a : Addr} (ho : h.get? a = some { cls := .type "set", dict := none, data := .set #[] 0 (.fresh 0 0 (!w.params.followText "set-order")) }) : SN w h a [] #[] 0 (.fresh 0 0 (!w.params.followText "set-order")) where
  ob := ⟨_, ho, ⟨rfl, rfl, rfl⟩, rfl⟩
  rows := rfl
  tab := ⟨List.Pairwise.nil, rfl, rfl, .inl rfl, fun x hx => (nomatch hx), fun i h j hi => (by simp at hi)⟩
  nd := List.nodup_nil
  led := by
    cases e : w.params.followText "set-order" with
    | true => exact .inl rfl
    | false => exact .inr rfl
  room := (by decide : 0 * 5 < 7 * 3)
  few := (by decide : 0 < 64)
end
end HT4
end partR5
section partR6
set_option Elab.async false
set_option linter.all false
set_option maxRecDepth 100000
set_option maxHeartbeats 4000000
namespace HT4
open PySem PySem.Spec PyProof.Rows L2
/-! ### the set as a thing of the layer -/
def SetNO (w : World) (a : Addr) (L : List AK) : HO := .ext fun h => ∃ es ep t, SN w h a L es ep t
theorem setNO_ok {P : Program} {w : World} {H : Hp} {h : Heap} {a : Addr} {L : List AK} {es : Array (Int × Value)} {ep : Nat} {t : SetTable} (R : SN w h a L es ep t) : ObjOk P w H h a (SetNO w a L) := by
  obtain ⟨o, ho, r⟩ := id R.ob
  refine ⟨⟨es, ep, t, R⟩, ⟨o, ho⟩, fun h1 h2 p k => ?_⟩
  obtain ⟨es', ep', t', R'⟩ := p
  obtain ⟨o', ho', r'⟩ := id R'.ob
  exact ⟨es', ep', t', ⟨⟨o', k o' ho', r'⟩, R'.rows, R'.tab, R'.nd, R'.led, R'.room, R'.few⟩⟩
/-- a key's tuple, as the layer reads it -/
structure KeyH (K : PySem.W.Frag) (H : Hp) (p : AK) : Prop where
  is : Dp K H (.ref p.1) p.2.data
  dp : p.2.depth ≤ 8
section
variable {X : Cx} {pins : List (Addr × Obj)} {σ : L2.St} {H : Hp} {s : Shared}
mutual
theorem nested_of (I : Inv X pins σ H s) : ∀ (k : NestedKey) (v : V) (u : Value), Dp X.K H v k.data → RelV v u → NestedIs s.heap k u
  | .none, v, u, h, r => by
    have h' : Dp X.K H v .none := h
    cases h'
    cases r
    exact .none
  | .num i, v, u, h, r => by
    have h' : Dp X.K H v (.int i) := h
    cases h'
    obtain ⟨t, rfl⟩ := r
    exact .int i t
  | .text y, v, u, h, r => by
    have h' : Dp X.K H v (.str y) := h
    cases h'
    obtain ⟨t, rfl⟩ := r
    exact .text y t
  | .tup ks, v, u, h, r => by
    have h' : Dp X.K H v (.tuple (NestedKey.datas ks)) := h
    cases h' with
    | tup hs ha =>
      cases r
      obtain ⟨its, rv, ⟨o, ho, hc, n, hd⟩, _⟩ := I.tuple hs
      exact .tup ho hc hd (by simpa using nesteds_of I ks _ its ha rv)
theorem nesteds_of (I : Inv X pins σ H s) : ∀ (ks : List NestedKey) (vs : List V) (us : List Value), DpAll X.K H vs (NestedKey.datas ks) → Vals vs us → NestedAll s.heap ks us
  | [], vs, us, h, r => by
    have h' : DpAll X.K H vs [] := h
    cases h'
    cases r
    exact .nil
  | k :: ks, vs, us, h, r => by
    have h' : DpAll X.K H vs (k.data :: NestedKey.datas ks) := h
    cases h' with
    | cons h1 h2 =>
      cases r with
      | cons r1 r2 => exact .cons (nested_of I k _ _ h1 r1) (nesteds_of I ks _ _ h2 r2)
end
theorem KeyH.at (I : Inv X pins σ H s) {p : AK} (h : KeyH X.K H p) : KeyAt s.heap p := ⟨nested_of I _ _ _ h.is rfl, h.dp⟩
theorem addN_ok {E : Value → Shared → Prop} {D : Addr} {L : List AK} {p : AK} {Q : Value → Shared → Prop} (I : Inv X pins σ H s) (hD : H D = some (SetNO X.w D L)) (hL : ∀ q ∈ L, KeyH X.K H q) (hp : KeyH X.K H p) (few : L.length + 1 < 64)
    (hu : X.A.units + 64 < cLine)
    (h : ∀ s' L', (p.2 ∈ L.map (·.2) → L' = L) → (p.2 ∉ L.map (·.2) → L'.Perm (p :: L)) → Inv X pins σ (upd H D (SetNO X.w D L')) s' → Q .none s') : wpAny (model X.prog X.w) X.A (call (.builtin "set.add") [.ref D, .ref p.1]) Q E s := by
  obtain ⟨⟨es, ep, t, R⟩, _, _⟩ := I.hok D _ hD
  refine addKey R (fun q hq => (hL q hq).at I) (hp.at I) (by omega) few fun h' tk L' es' ep' t' sb R' e1 e2 => ?_
  obtain ⟨o, ho, _⟩ := id R'.ob
  exact h _ L' e1 e2 (I.write (e := D) (t' := tk) (by rw [hD]; trivial) (.inl rfl) (fun b u hb hu => (sb.2 b hb).trans hu) ⟨o, ho⟩ (setNO_ok R'))
end
section
variable {X : Cx}
/-- {elt for target in iter if ..}, elt a key's tuple -/
def tScN (K : PySem.W.Frag) (w : World) (wi : TI) (g : TG) (tt : TT) (te : TE) (vs : List Nat) : TE := fun σ H Q => wi σ H fun J H1 => ∀ D, H1 D = none → ∃ W : Nat → Nat → Hp → Prop, (∃ m, W 0 m (upd H1 D (SetNO w D []))) ∧ ∀ i m H, W i m H →
  (J.stop i H ∧ Q (.ref D) H) ∨ (J.go i H ∧ ∃ Nx : Hp → Prop, (∀ H', Nx H' → ∃ m', m' < m ∧ W (i + 1) m' H') ∧ ∀ x H', J.yld i H x H' → g x (wipe σ vs) H' fun σ2 H2 => wipe σ2 vs = wipe σ vs ∧ tt σ2 H2 fun b H3 =>
    if b = true then te σ2 H3 fun y H4 => ∃ (p : AK) (L : List AK), y = .ref p.1 ∧ KeyH K H4 p ∧ (∀ q ∈ L, KeyH K H4 q) ∧ H4 D = some (SetNO w D L) ∧ L.length + 1 < 64 ∧
      ∀ L', (p.2 ∈ L.map (·.2) → L' = L) → (p.2 ∉ L.map (·.2) → L'.Perm (p :: L)) → Nx (upd H4 D (SetNO w D L')) else Nx H3)
theorem scN_core {pins : List (Addr × Obj)} {s : Shared} {σ : L2.St} {H : Hp} {Q : VK} {elt tg iter : Expr} {ifs : List Expr} {scope : Scope} {own : List (PySem.Str × Nat)} {pos pos' : Pos} {wi : TI} {g : TG} {tt : TT} {te : TE} {Qf : Value → Shared → Prop}
    (hc : X.calm = true) (hu : X.A.units + 64 < cLine) (hN : X.N.Nodup) (I : Inv X pins σ H s) (hi : PI X tg iter wi) (ok : BlkOk X.N X.env.scope scope own)
    (hg : ∀ (s : Shared) (H : Hp) (C : Addr) (cl : List (PySem.Str × Addr)) (fp : List Addr), PG (X.blk s H scope (compEnvC scope cl C X.env) fp) tg g) (ht : ∀ (s : Shared) (H : Hp) (C : Addr) (cl : List (PySem.Str × Addr)) (fp : List Addr), PTs (X.blk s H scope (compEnvC scope cl C X.env) fp) ifs tt)
    (he : ∀ (s : Shared) (H : Hp) (C : Addr) (cl : List (PySem.Str × Addr)) (fp : List Addr), PE (X.blk s H scope (compEnvC scope cl C X.env) fp) elt te) (hs : ∀ x, foldedSetIterable iter X.env x = pure x)
    (h : tScN X.K X.w wi g tt te (own.map (·.2)) σ H Q)
    (hRR : ∀ D C s' m H', Inv X pins σ H' s' → Q (.ref D) H' → s'.heap.Ns C m → FpOk X pins H' C → compPost (model X.prog X.w) X.A X.xe none Qf (.ref D) C (.ok .next) s') :
    wpAny (model X.prog X.w) X.A (comprehension (.SetComp elt [⟨tg, iter, ifs, 0⟩] scope pos) scope X.env pos' (newSet (.type "set")) false (eval iter X.env) none) Qf X.xe s := by
  have hfree : ∀ y ∈ scope.names, y.2 = .free → ∃ c, X.env.cells.lookup y.1 = some c := fun y hy e => (ok.free y hy e).elim (fun k => I.ok.has _ (.inl k)) fun k => I.ok.has _ (.inr k)
  refine wpAny_comprehension_free (use := none) rfl hs (closure_ok hfree) ok.kind (fun y hy e => by rw [ok.uniq y hy, e])
    (thn (hi.run pins s σ H _ I h) fun xv s1 hx => thn hx fun itv s2 ⟨it, fp, tn, J, H2, e, I2, T, st2, f2, q⟩ => ?_)
  subst e
  refine PpSet.newSet_ok (newEnv_comp ?_)
  obtain ⟨D, hD⟩ : ∃ D, s2.heap.objs.size = D := ⟨_, rfl⟩
  rw [hD]
  obtain ⟨W, ⟨m0, w0⟩, turn⟩ := q D (I2.hok.fresh (Nat.le_of_eq hD))
  have I3 : Inv X pins σ (upd H2 D (SetNO X.w D [])) { s2 with heap := s2.heap.push { cls := .type "set", dict := none, data := .set #[] 0 (.fresh 0 0 (!X.w.params.followText "set-order")) } } :=
    I2.laid (t' := s2.toks) (fun b o e => Heap.get?_push_of_some _ e) (Nat.le_of_eq hD) (setNO_ok (SN.fresh (by rw [← hD]; exact Heap.get?_push_size _ rfl)))
  generalize hs3 : ({ s2 with heap := s2.heap.push { cls := .type "set", dict := none, data := .set #[] 0 (.fresh 0 0 (!X.w.params.followText "set-order")) } } : Shared) = s3 at I3
  have h3 : s3.heap = s2.heap.push { cls := .type "set", dict := none, data := .set #[] 0 (.fresh 0 0 (!X.w.params.followText "set-order")) } := by rw [← hs3]
  have f3 : ∀ b ∈ fp, FpOk X pins (upd H2 D (SetNO X.w D [])) b ∧ b < s3.heap.objs.size := fun b hb => by
    obtain ⟨o, e, _⟩ := T.obj _ _ st2 b hb
    have hlt := Heap.lt_size e
    have hne : b ≠ D := by rw [← hD]; exact Nat.ne_of_lt hlt
    exact ⟨⟨by rw [upd_ne hne]; exact (f2 b hb).1, (f2 b hb).2⟩, by rw [h3, Heap.size_push]; exact Nat.lt_succ_of_lt hlt⟩
  have st3 : tn 0 s3.heap := T.keep _ _ _ st2 fun b _ o e => by rw [h3]; exact Heap.get?_push_of_some _ e
  have I4 := block_start I3 ok hN f3
  have pg := hg s3 (upd H2 D (SetNO X.w D [])) s3.heap.objs.size (cellsFrom (s3.heap.objs.size + 1) scope.names (cloFrom X.env.cells scope.names [])) fp
  have pt := ht s3 (upd H2 D (SetNO X.w D [])) s3.heap.objs.size (cellsFrom (s3.heap.objs.size + 1) scope.names (cloFrom X.env.cells scope.names [])) fp
  have pe := he s3 (upd H2 D (SetNO X.w D [])) s3.heap.objs.size (cellsFrom (s3.heap.objs.size + 1) scope.names (cloFrom X.env.cells scope.names [])) fp
  show codeAny _ _ (.compStart (.SetComp elt [⟨tg, iter, ifs, 0⟩] scope pos) 0 (.ref it) (.ref D) (compEnvC scope (cellsFrom (s3.heap.objs.size + 1) scope.names (cloFrom X.env.cells scope.names [])) s3.heap.objs.size X.env)) (compPost (model X.prog X.w) X.A X.xe none Qf (.ref D) s3.heap.objs.size) { s3 with heap := pushCells (s3.heap.push { cls := .type "dict", data := .dict #[] }) scope.names }
  have nfp : ∀ b ∈ fp, (upd H2 D (SetNO X.w D [])) b = none := fun b hb => (f3 b hb).1.1
  generalize hce : compEnvC scope (cellsFrom (s3.heap.objs.size + 1) scope.names (cloFrom X.env.cells scope.names [])) s3.heap.objs.size X.env = ce at I4 pg pt pe ⊢
  have cL : ce.locals = s3.heap.objs.size := by subst hce; rfl
  generalize upd H2 D (SetNO X.w D []) = H3 at I3 I4 pg pt pe w0 nfp f3
  generalize hs4 : ({ s3 with heap := pushCells (s3.heap.push { cls := .type "dict", data := .dict #[] }) scope.names } : Shared) = s4 at I4 ⊢
  have st4 : tn 0 s4.heap := T.keep _ _ _ st3 fun b _ o e => by rw [← hs4]; exact pushCells_keeps _ _ _ _ (Heap.get?_push_of_some _ e)
  have stat : ∀ {σ' : L2.St} {H' : Hp} {s' : Shared}, Inv (X.blk s3 H3 scope ce fp) [] σ' H' s' → (∀ b ∈ fp, H' b = none) → ∀ b ∈ fp, FpOk (X.blk s3 H3 scope ce fp) [] H' b := fun {σ' H' s'} I' hn b hb =>
    ⟨hn b hb, (I'.ok.exf b hb).1, I'.ok.exfs b hb, .inl hb, fun x c e => (I'.ok.exf b hb).2 x c e, fun p hp => absurd (show p ∈ ([] : List (Addr × Obj)) ++ [] from hp) (by simp)⟩
  have loop : codeAny (model X.prog X.w) X.A (.compLoop (.SetComp elt [⟨tg, iter, ifs, 0⟩] scope pos) 0 (.ref it) (.ref D) ce) (compPost (model X.prog X.w) X.A X.xe none Qf (.ref D) s3.heap.objs.size) s4 := by
    refine PpSet.compLoopS_any (fun n s' => ∃ i H', Inv (X.blk s3 H3 scope ce fp) [] (wipe σ (own.map (·.2))) H' s' ∧ tn i s'.heap ∧ (∀ b ∈ fp, H' b = none) ∧ W i n H') ?_ m0 ⟨0, H3, I4, st4, nfp, w0⟩
    rintro n s5 ⟨i, H5, I5, st5, n5, w5⟩
    rcases turn i n H5 w5 with ⟨stop, qq⟩ | ⟨go, Nx, hNx, step⟩
    · refine thnF (T.done (X.blk s3 H3 scope ce fp) rfl rfl rfl hc i [] s5 _ H5 (fun _ _ => False) I5 (stat I5 n5) st5 stop) fun r s6 ⟨hr, I6⟩ => ?_
      subst hr
      have I7 : Inv X pins σ H5 s6 := I3.call' (ch := fp) I6.os I6.base I6.hok I6.bare fun b hb => ⟨(f3 b hb).1.2.2.2.1, (f3 b hb).1.2.1, (f3 b hb).1.2.2.2.2.1, (f3 b hb).1.2.2.2.2.2⟩
      have nC : H5 ce.locals = none := I6.free
      obtain ⟨m, hn, _⟩ := I6.loc
      have hn' : s6.heap.Ns ce.locals m := hn
      rw [cL] at hn' nC
      exact hRR D s3.heap.objs.size s6 m H5 I7 qq hn' (I3.fpOk (Nat.le_refl _) nC)
    · refine thnF (T.item (X.blk s3 H3 scope ce fp) rfl rfl rfl hc i [] s5 _ H5 (fun _ _ => False) I5 (stat I5 n5) st5 go) fun r s6 ⟨u, hr, h6⟩ => ?_
      subst hr
      refine thnF h6 fun _ s7 ⟨x, H7, I7, r7, y7, st7, n7⟩ => ?_
      refine thnF (pg.run _ s7 _ H7 x u _ (I7.pinned (stat I7 n7) (T.obj _ _ st7)) r7 (step x H7 y7)) fun _ s8 ⟨σ8, H8, I8, hw8, q8⟩ => ?_
      refine thnF (pt.run _ s8 σ8 H8 _ I8 q8) fun b s9 ⟨H9, I9, q9⟩ => ?_
      have fin : ∀ {s' : Shared} {H' : Hp}, Inv (X.blk s3 H3 scope ce fp) ([] ++ pinsAt fp s7.heap) σ8 H' s' → Nx H' → ∃ m, m < n ∧ ∃ i H', Inv (X.blk s3 H3 scope ce fp) [] (wipe σ (own.map (·.2))) H' s' ∧ tn i s'.heap ∧ (∀ b ∈ fp, H' b = none) ∧ W i m H' := fun {s' H'} I' nx => by
        obtain ⟨m', hm, w'⟩ := hNx H' nx
        have pin' : ∀ b ∈ fp, ∀ o, s7.heap.get? b = some o → s'.heap.get? b = some o ∧ H' b = none := fun b hb o e =>
          let z := I'.pin (b, o) (List.mem_append_right _ (List.mem_append_right _ (mem_pinsAt hb e)))
          ⟨z.1, z.2.1⟩
        refine ⟨m', hm, i + 1, H', (I'.unpinned (pins := [])).weak (by rw [← hw8, wipe_length]) (fun j v e => ?_), T.keep _ _ _ st7 fun b hb o e => (pin' b hb o e).1, fun b hb => ?_, w'⟩
        · rw [← hw8] at e
          exact (wipe_some e).1
        · obtain ⟨o, e, _⟩ := T.obj _ _ st7 b hb
          exact (pin' b hb o e).2
      cases b with
      | false =>
        rw [if_neg Bool.false_ne_true] at q9 ⊢
        exact fin I9 q9
      | true =>
        rw [if_pos rfl] at q9 ⊢
        refine thnF (pe.run _ s9 σ8 H9 _ I9 q9) fun z s10 ⟨yv, H10, I10, r10, p, L, ey, hk, hL, hD10, few, nx⟩ => ?_
        subst ey
        obtain rfl : z = Value.ref p.1 := r10
        exact addN_ok (X := X.blk s3 H3 scope ce fp) I10 hD10 hL hk few hu fun s11 L' e1 e2 I11 => fin I11 (nx L' e1 e2)
  exact PpSet.codeAny_compStart_set loop (T.self X.A 0 _ _ _ st4 loop)
theorem pe_scN {elt tg iter : Expr} {ifs : List Expr} {scope : Scope} {own : List (PySem.Str × Nat)} {pos : Pos} {wi : TI} {g : TG} {tt : TT} {te : TE} (hc : X.calm = true) (hu : X.A.units + 64 < cLine) (hN : X.N.Nodup) (hi : PI X tg iter wi) (ok : BlkOk X.N X.env.scope scope own)
    (hg : ∀ (s : Shared) (H : Hp) (C : Addr) (cl : List (PySem.Str × Addr)) (fp : List Addr), PG (X.blk s H scope (compEnvC scope cl C X.env) fp) tg g) (ht : ∀ (s : Shared) (H : Hp) (C : Addr) (cl : List (PySem.Str × Addr)) (fp : List Addr), PTs (X.blk s H scope (compEnvC scope cl C X.env) fp) ifs tt)
    (he : ∀ (s : Shared) (H : Hp) (C : Addr) (cl : List (PySem.Str × Addr)) (fp : List Addr), PE (X.blk s H scope (compEnvC scope cl C X.env) fp) elt te) (hs : ∀ x, foldedSetIterable iter X.env x = pure x := by intro _; rfl) :
    PE X (.SetComp elt [⟨tg, iter, ifs, 0⟩] scope pos) (tScN X.K X.w wi g tt te (own.map (·.2))) := by
  constructor
  intro pins s σ H Q I h
  rw [PpSet.eval_SetComp]
  refine scN_core hc hu hN I hi ok hg ht he hs h fun D C s' m H' I' q hn f => ⟨m, hn, fun h'' sb => ?_⟩
  obtain ⟨f0, f1, f2, f3, f4, f5⟩ := f
  exact ⟨.ref D, H', I'.turned (t' := s'.toks) (fun b o hb e => (sb.2 b hb).trans e) f0 f1 f3 f4 f5, rfl, q⟩
end
end HT4
end partR6
section partR7
set_option Elab.async false
set_option linter.all false
set_option maxRecDepth 100000
set_option maxHeartbeats 4000000
namespace HT4
open PySem PySem.Spec PyProof.Rows L2 PySem.W
/-- what sorted leaves: in the tuples' order -/
def InOrder (L : List AK) : Prop := L.Pairwise fun p q => dataLt q.2.data p.2.data = false
theorem inOrder_merge (L : List AK) : InOrder (L.mergeSort (dataLe false fun p : AK => p.2.data)) := by
  have T : TotalLe (dataLe false fun p : AK => p.2.data) := by
    have z := sortLe_total (listOrd itemOrd) false (fun p : AK => keyToks p.2.data)
    exact z
  have h := sort_pairwise T L
  refine List.Pairwise.imp (fun {p q} e => ?_) h
  have e' : (!dataLt q.2.data p.2.data) = true := e
  simpa using e'
section
variable {P : Program} {w : World} {A : Around} {E : Value → Shared → Prop} {s : Shared} {a : Addr} {L : List AK} {es : Array (Int × Value)} {ep : Nat} {t : SetTable}
theorem refsPerm {vs : List Value} (hK : ∀ p ∈ L, KeyAt s.heap p) (nd : (L.map (·.2)).Nodup) (pm : vs.Perm (L.map fun p => Value.ref p.1)) : ∃ L1 : List AK, vs = L1.map (fun p => Value.ref p.1) ∧ L1.Perm L := by
  have key : ∀ (vs ws : List Value), vs.Perm ws → ∀ M : List AK, ws = M.map (fun p => Value.ref p.1) → ∃ L1 : List AK, vs = L1.map (fun p => Value.ref p.1) ∧ L1.Perm M := by
    intro vs ws p
    induction p with
    | nil =>
      intro M e
      cases M with
      | nil => exact ⟨[], rfl, .nil⟩
      | cons m M => cases e
    | cons x _ ih =>
      intro M e
      cases M with
      | nil => cases e
      | cons m M =>
        injection e with e1 e2
        obtain ⟨L1, z1, z2⟩ := ih M e2
        exact ⟨m :: L1, by rw [e1, z1]; rfl, z2.cons m⟩
    | swap x y l =>
      intro M e
      match M, e with
      | m :: n :: M, e =>
        injection e with e1 e2
        injection e2 with e2 e3
        exact ⟨n :: m :: M, by rw [e1, e2, e3]; rfl, .swap m n M⟩
      | [m], e =>
        injection e with e1 e2
        cases e2
    | trans _ _ ih1 ih2 =>
      intro M e
      obtain ⟨L2, z1, z2⟩ := ih2 M e
      obtain ⟨L1, z3, z4⟩ := ih1 L2 z1
      exact ⟨L1, z3, z4.trans z2⟩
  exact key vs _ pm L rfl
theorem each_of {R : Value → AK → Prop} : ∀ {M : List AK}, (∀ p ∈ M, R (.ref p.1) p) → EachIs R (M.map fun p => Value.ref p.1) M
  | [], _ => .nil
  | p :: M, h => .cons (h p List.mem_cons_self) (each_of fun q hq => h q (List.mem_cons_of_mem _ hq))
theorem each_dat {R : Value → PyData → Prop} : ∀ {M : List AK}, (∀ p ∈ M, R (.ref p.1) p.2.data) → EachIs R (M.map fun p => Value.ref p.1) (M.map fun p => p.2.data)
  | [], _ => .nil
  | p :: M, h => .cons (h p List.mem_cons_self) (each_dat fun q hq => h q (List.mem_cons_of_mem _ hq))
theorem each_refs : ∀ {vs : List Value} {M : List AK}, EachIs (fun v (p : AK) => v = .ref p.1) vs M → vs = M.map fun p => Value.ref p.1
  | _, _, .nil => rfl
  | _, _, .cons h t => by rw [List.map_cons, ← each_refs t, h]
theorem depth_dat : ∀ k : NestedKey, k.data.depth = k.depth := by
  intro k
  have key : ∀ n (k : NestedKey), sizeOf k ≤ n → k.data.depth = k.depth ∧ True := by
    intro n
    induction n with
    | zero =>
      intro k hk
      cases k <;> simp at hk
    | succ n ih =>
      intro k hk
      refine ⟨?_, trivial⟩
      cases k with
      | none => rfl
      | num i => rfl
      | text x => rfl
      | tup ks =>
        have inner : ∀ ks : List NestedKey, (∀ k ∈ ks, k.data.depth = k.depth) → PyData.depthAll (NestedKey.datas ks) = NestedKey.depthAll ks := by
          intro ks
          induction ks with
          | nil => intro _; rfl
          | cons k ks ihk =>
            intro h
            have z := ihk fun q hq => h q (List.mem_cons_of_mem _ hq)
            show PyData.depthAll (k.data :: NestedKey.datas ks) = NestedKey.depthAll (k :: ks)
            simp only [PyData.depthAll, NestedKey.depthAll, z, h k List.mem_cons_self]
        have z := inner ks fun k hm => (ih k (by
          have := List.sizeOf_lt_of_mem hm
          simp only [NestedKey.tup.sizeOf_spec] at hk
          omega)).1
        show PyData.depth (.tuple (NestedKey.datas ks)) = NestedKey.depth (.tup ks)
        simp only [PyData.depth, NestedKey.depth, z]
  exact (key _ k (Nat.le_refl _)).1
/-- sorted(a set) -/
theorem sorted_setN (R : SN w s.heap a L es ep t) (hh : A.handled = none) (hK : ∀ p ∈ L, KeyAt s.heap p) (hR : ∀ p ∈ L, ∃ as, Reads s.heap (.ref p.1) p.2.data as) (hT : ∀ p ∈ L, ∃ ks, p.2 = .tup ks) (hal : AllAlike (L.map fun p => p.2.data))
    (hu : A.units + 16 < cLine) {Q : Value → Shared → Prop}
    (hQ : ∀ s' p c L', (∀ b o, s.heap.get? b = some o → s'.heap.get? b = some o) → s'.gens = s.gens → s'.os = s.os → s.heap.objs.size ≤ p → s'.heap.get? p = some (seqObj "list" (L'.map fun q => Value.ref q.1).toArray c) →
      L'.Perm L → InOrder L' → Q (.ref p) s') : wpAny (model P w) A (call (.builtin "sorted") [.ref a]) Q E s := by
  obtain ⟨o, ho, hex, hd⟩ := id R.ob
  have hsl := rowsN_len R.rows
  have hfew := R.few
  refine Calls.call_function_entry kind_sorted plain_sorted entry_sorted (args_sorted1 _) ?_
  unfold Builtin.«sorted»
  refine wpAny_bind (m := checkCount "sorted" 1 1 _) (wpAny_pure ?_)
  refine wpAny_bind (collect_set (A := A.in1) hh ⟨o, ho, hex.1, hd⟩ R.fits (by unfold scanBound; omega) R.tab.ris R.led fun s1 vs k1 hz g1 o1 pm => ?_)
  have hes : es.toList.map (·.2) = L.map fun q => Value.ref q.1 := by
    rw [R.rows]
    unfold rowsN
    rw [List.map_map]
    rfl
  rw [hes] at pm
  obtain ⟨L1, rfl, pl⟩ := refsPerm hK R.nd pm
  have hm : ∀ p ∈ L1, p ∈ L := fun p hp => pl.mem_iff.mp hp
  have hl1 : (L1.map fun p => Value.ref p.1).length < 64 := by rw [List.length_map, pl.length_eq]; exact hfew
  refine wpAny_bind (wpAny_newList ?_ (by rw [sizeLine_eq]; omega))
  have hoL : (s1.heap.push (seqObj "list" (L1.map fun p => Value.ref p.1).toArray 0)).get? s1.heap.objs.size = some (seqObj "list" (L1.map fun p => Value.ref p.1).toArray 0) := Heap.get?_push_size _ rfl
  have old : ∀ b o, s.heap.get? b = some o → (sortingHeap (s1.heap.push (seqObj "list" (L1.map fun p => Value.ref p.1).toArray 0)) s1.heap.objs.size (L1.map fun p => Value.ref p.1)).get? b = some o := fun b o e => by
    have e1 := k1 b o e
    exact sortingHeap_old (Nat.ne_of_lt (Heap.lt_size e1)) (Heap.get?_push_of_some _ e1)
  have rd : ∀ p ∈ L1, ∃ as, Reads (sortingHeap (s1.heap.push (seqObj "list" (L1.map fun p => Value.ref p.1).toArray 0)) s1.heap.objs.size (L1.map fun p => Value.ref p.1)) (.ref p.1) p.2.data as := fun p hp => by
    obtain ⟨as, r⟩ := hR p (hm p hp)
    exact ⟨as, PyProof.Rows.Reads.keeps old r⟩
  have hal1 : AllAlike (L1.map fun p => p.2.data) := fun d hd d' hd' => hal d ((pl.map _).mem_iff.mp hd) d' ((pl.map _).mem_iff.mp hd')
  have S : SortsAt P w A.in1.in1 { s1 with heap := sortingHeap (s1.heap.push (seqObj "list" (L1.map fun p => Value.ref p.1).toArray 0)) s1.heap.objs.size (L1.map fun p => Value.ref p.1) } (dataKind (sortingHeap (s1.heap.push (seqObj "list" (L1.map fun p => Value.ref p.1).toArray 0)) s1.heap.objs.size (L1.map fun p => Value.ref p.1)) (L1.map fun p => p.2.data)) (L1.map fun p => Value.ref p.1) := by
    refine HT3.sortsTups (each_dat rd) hal1 (fun d hd => ?_) (fun d hd => ?_)
    · obtain ⟨p, hp, rfl⟩ := List.mem_map.mp hd
      obtain ⟨ks, e⟩ := hT p (hm p hp)
      exact ⟨NestedKey.datas ks, by rw [e]; rfl⟩
    · obtain ⟨p, hp, rfl⟩ := List.mem_map.mp hd
      have z := (hK p (hm p hp)).dp
      rw [depth_dat]
      have u2 : A.in1.in1.units = A.units + 2 := rfl
      rw [u2]
      omega
  refine wpAny_bind (wpAny_holding (wpAny_call_entry slot_list_sort ⟨_, hoL, rfl⟩ entry_list_sort (list_sort_vals (s := { s1 with heap := s1.heap.push (seqObj "list" (L1.map fun p => Value.ref p.1).toArray 0) }) hoL S (by rw [sizeLine_eq]; omega) ⟨_, rfl, wpAny_pure ⟨_, rfl, ?_⟩⟩) (args_list_sort _)))
  have eo := each_refs (sortVals_data (R := fun v (p : AK) => v = .ref p.1) (enc := fun p : AK => p.2.data) false (each_of fun p _ => rfl) (each_of rd) hal1)
  obtain ⟨c, hc⟩ := sortedHeap_at (out := (sortVals (dataKind (sortingHeap (s1.heap.push (seqObj "list" (L1.map fun p => Value.ref p.1).toArray 0)) s1.heap.objs.size (L1.map fun p => Value.ref p.1)) (L1.map fun p => p.2.data)) false (L1.map fun p => Value.ref p.1) (L1.map fun p => Value.ref p.1)).toArray) hoL
  refine hQ _ s1.heap.objs.size c _ (fun b u e => ?_) g1 o1 hz (hc.trans (congrArg (fun z => some (seqObj "list" (List.toArray z) c)) eo)) ((List.mergeSort_perm _ _).trans pl) (inOrder_merge L1)
  have q := k1 b u e
  have hlt := Heap.lt_size q
  show (sortedHeap (s1.heap.push _) s1.heap.objs.size _ _).get? b = some u
  rw [sortedHeap_old (Nat.ne_of_lt hlt) (by rw [size_push']; exact Nat.lt_succ_of_lt hlt)]
  exact Heap.get?_push_of_some _ q
end
section
variable {X : Cx}
theorem refs_vals : ∀ (M : List AK), Vals (M.map fun p => V.ref p.1) (M.map fun p => Value.ref p.1)
  | [] => .nil
  | p :: M => .cons rfl (refs_vals M)
/-- sorted(set of tuples) -/
def rSortSN (K : PySem.W.Frag) (w : World) : List V → Hp → VK → Prop := fun vs H Q => ∃ (a : Addr) (L : List AK), vs = [V.ref a] ∧ H a = some (SetNO w a L) ∧ (∀ p ∈ L, KeyH K H p) ∧ (∀ p ∈ L, ∃ ks, p.2 = .tup ks) ∧ AllAlike (L.map fun p => p.2.data) ∧
  ∀ (L' : List AK) (p : Addr), L'.Perm L → (L'.map (·.2)).Nodup → L'.length < 64 → InOrder L' → H p = none → Q (.ref p) (upd H p (.lst (L'.map fun q => V.ref q.1)))
theorem cr_sortSN (hc : X.calm = true) (hu : X.A.units + 64 < cLine) : CallR X (.builtin "sorted") (rSortSN X.K X.w) := by
  intro pins s σ H vs us Q I r h
  obtain ⟨a, L, rfl, ha, hk, hT, hal, q⟩ := h
  obtain ⟨⟨es, ep, t, R⟩, _, _⟩ := I.hok a _ ha
  rw [Vals.ref1 r]
  refine sorted_setN R (I.ok.hd hc) (fun p hp => (hk p hp).at I) (fun p hp => Dp.reads I _ _ _ (hk p hp).is rfl) hT hal (by omega) fun s' p c L' k g o hp hg pm io => ?_
  have hfew : L'.length < 64 := by rw [pm.length_eq]; exact R.few
  have hlen : (L'.map fun q => V.ref q.1).length ≤ sizeLine := by rw [List.length_map, sizeLine_eq]; omega
  have hn : H p = none := I.hok.fresh hp
  have J : Inv X pins σ (upd H p (.lst (L'.map fun q => V.ref q.1))) { s with heap := s'.heap, gens := s'.gens, drawn := s'.drawn, toks := s'.toks } :=
    I.call (ch := []) (Un.laid k hp hn) (I.hok.laid k hp ⟨hlen, _, c, refs_vals L', hg⟩) (by rw [g]; exact I.bare) (fun _ z => nomatch z)
  have e : s' = { s with heap := s'.heap, gens := s'.gens, drawn := s'.drawn, toks := s'.toks } := by
    cases s'
    cases s
    cases o
    rfl
  rw [e]
  exact ⟨.ref p, _, J, rfl, q L' p pm ((pm.map (·.2)).nodup_iff.mpr R.nd) hfew io hn⟩
/-- sorted(xs), xs a list of data that are alike and no tuples -/
def rSortD (K : PySem.W.Frag) : List V → Hp → VK → Prop := fun vs H Q => ∃ (a : Addr) (bs : List (V × PyData)), vs = [V.ref a] ∧ SqL K H a (bs.map (·.1)) ∧ (∀ b ∈ bs, Dp K H b.1 b.2) ∧ AllAlike (bs.map (·.2)) ∧ (∀ b ∈ bs, b.2 ≠ .none ∧ ∀ xs, b.2 ≠ .tuple xs) ∧ (∀ b ∈ bs, b.2.depth ≤ 30) ∧
  ∀ p, H p = none → Q (.ref p) (upd H p (.lst ((bs.mergeSort (dataLe false fun b : V × PyData => b.2)).map (·.1))))
theorem pairs_each {R : V → PyData → Value → Prop} : ∀ {bs : List (V × PyData)} {its : List Value}, Vals (bs.map (·.1)) its → (∀ b ∈ bs, ∀ u, RelV b.1 u → R b.1 b.2 u) → EachIs (fun v (b : V × PyData) => RelV b.1 v ∧ R b.1 b.2 v) its bs
  | [], _, .nil, _ => .nil
  | b :: bs, _, .cons r t, h => .cons ⟨r, h b List.mem_cons_self _ r⟩ (pairs_each t fun c hc => h c (List.mem_cons_of_mem _ hc))
theorem each_vals : ∀ {out : List Value} {bs : List (V × PyData)}, EachIs (fun v (b : V × PyData) => RelV b.1 v) out bs → Vals (bs.map (·.1)) out
  | _, _, .nil => .nil
  | _, _, .cons h t => .cons h (each_vals t)
theorem cr_sortD (hu : X.A.units + 64 < cLine) : CallR X (.builtin "sorted") (rSortD X.K) := by
  intro pins s σ H vs us Q I r h
  obtain ⟨a, bs, rfl, hs, hd, hal, hk, hdp, q⟩ := h
  obtain ⟨its, rv, hl, hz⟩ := I.list hs
  rw [Vals.ref1 r]
  rw [List.length_map] at hz
  have e0 : EachIs (fun v (b : V × PyData) => RelV b.1 v ∧ ∃ as, Reads s.heap v b.2 as) its bs := pairs_each (R := fun _ d u => ∃ as, Reads s.heap u d as) rv fun b hb u ru => Dp.reads I _ _ _ (hd b hb) ru
  refine sorted_data (enc := fun b : V × PyData => b.2) (R := fun v b => RelV b.1 v) hl.isList (e0.mono fun _ _ z => z.1) (e0.mono fun _ _ z => z.2) hal (.inr fun d hm => ?_) hz (fun b hb => ?_) fun out ho eo => ?_
  · obtain ⟨b, hb, rfl⟩ := List.mem_map.mp hm
    exact hk b hb
  · have z := hdp b hb
    show X.A.units + 2 + b.2.depth < cLine
    omega
  · obtain ⟨c, hc⟩ := PyProof.Rows.sortedAll_at s.heap its out.toArray
    have hlen : ((bs.mergeSort (dataLe false fun b : V × PyData => b.2)).map (·.1)).length ≤ sizeLine := by rw [List.length_map, List.length_mergeSort]; exact hz
    exact ⟨.ref _, upd H (s.heap.objs.size + 1) (.lst ((bs.mergeSort (dataLe false fun b : V × PyData => b.2)).map (·.1))), I.laid (t' := s.toks) (fun _ _ => PyProof.Rows.sortedAll_old) (Nat.le_succ _) ⟨hlen, out, c, each_vals eo, hc⟩, rfl, q _ (I.hok.fresh (Nat.le_succ _))⟩
/-- min(xs, default=d) of a list of ints -/
def rMinD (K : PySem.W.Frag) : List V → List V → Hp → VK → Prop := fun vs zs H Q => ∃ (a : Addr) (ns : List Int), vs = [V.ref a] ∧ zs = [.non] ∧ SqL K H a (ns.map V.int) ∧ (ns = [] → Q .non H) ∧ ∀ m, m ∈ ns → (∀ y ∈ ns, m ≤ y) → Q (.int m) H
theorem ints_reads {h : Heap} : ∀ {its : List Value} {ns : List Int}, IntsAre its ns → ∃ as, ReadsAll h its (ns.map .int) as
  | _, _, .nil => ⟨_, .nil⟩
  | _, _, .cons n t r => by
    obtain ⟨as, q⟩ := ints_reads (h := h) r
    exact ⟨_, .cons (.int n t) q⟩
theorem foldMin (n : Int) : ∀ ns : List Int, (ns.foldl min n ∈ n :: ns) ∧ ∀ y ∈ n :: ns, ns.foldl min n ≤ y := by
  intro ns
  induction ns generalizing n with
  | nil => simp
  | cons k r ih =>
    obtain ⟨h1, h2⟩ := ih (min n k)
    rw [List.foldl_cons]
    refine ⟨?_, fun y hy => ?_⟩
    · rcases List.mem_cons.mp h1 with e | e
      · rw [e]
        rcases Int.le_total n k with c | c
        · rw [Int.min_eq_left c]; exact List.mem_cons_self
        · rw [Int.min_eq_right c]; exact List.mem_cons_of_mem _ List.mem_cons_self
      · exact List.mem_cons_of_mem _ (List.mem_cons_of_mem _ e)
    · have h3 := h2 (min n k) List.mem_cons_self
      rcases List.mem_cons.mp hy with rfl | hy
      · exact Int.le_trans h3 (Int.min_le_left _ _)
      · rcases List.mem_cons.mp hy with rfl | hy
        · exact Int.le_trans h3 (Int.min_le_right _ _)
        · exact h2 y (List.mem_cons_of_mem _ hy)
theorem cr_minD (hc : X.calm = true) (hu : X.A.units + 64 < cLine) : CallRK X (.builtin "min") [Str.ofString "default"] (rMinD X.K) := by
  intro pins s σ H vs zs us ws Q I r rz h
  obtain ⟨a, ns, rfl, rfl, hs, q0, q⟩ := h
  obtain ⟨its, rv, hl, _⟩ := I.list hs
  rw [Vals.ref1 r]
  obtain ⟨d, rfl⟩ : ∃ d, ws = [d] := by
    cases rz with
    | cons _ t =>
      cases t
      exact ⟨_, rfl⟩
  obtain rfl : d = Value.none := by
    cases rz with
    | cons r1 _ => exact r1
  obtain ⟨as, hr⟩ := ints_reads (h := s.heap) rv.ints
  have hall : ∀ ds : List Int, PyData.depthAll (ds.map .int) = 0 := PySem.W.depth_ints
  refine min_list_default (xs := ns.map .int) (I.ok.hd hc) hl.isList (by simpa using hr) ⟨fun x hx y hy => ?_, fun x hx => ?_⟩ (by rw [hall]; omega) (fun e h' tk k => ?_) fun y ys i v h' tk bs e hv hrd k => ?_
  · obtain ⟨n, _, rfl⟩ := List.mem_map.mp hx
    obtain ⟨m, _, rfl⟩ := List.mem_map.mp hy
    rfl
  · obtain ⟨n, _, rfl⟩ := List.mem_map.mp hx
    exact fun z => nomatch z
  · have e' : ns = [] := by simpa using e
    exact ⟨.non, H, I.kept k, rfl, q0 e'⟩
  · cases ns with
    | nil => cases e
    | cons n ns =>
      injection e with e1 e2
      subst e1 e2
      rw [minD_ints] at hrd
      obtain ⟨t, rfl⟩ : ∃ t, v = Value.int (ns.foldl min n) t := by
        cases hrd
        exact ⟨_, rfl⟩
      obtain ⟨m1, m2⟩ := foldMin n ns
      exact ⟨.int _, H, I.kept k, ⟨_, rfl⟩, q _ m1 m2⟩
end
end HT4
end partR7
section partD1
set_option Elab.async false
set_option linter.all false
set_option maxRecDepth 100000
namespace HT5
open PySem PySem.Spec PyProof.Rows L2
/-- a ghost heap G within H grows to G' within H' -/
structure Gr (G H G' H' : Hp) : Prop where
  sub : Same G' H'
  ext : Same G G'
  keep : Same H H'
  new : ∀ a, G' a ≠ none → G a = none → H a = none
section
variable {G H G1 H1 G2 H2 : Hp} {p D : Addr} {o u : HO}
theorem Gr.refl (h : Same G H) : Gr G H G H := ⟨h, Same.refl G, Same.refl H, fun _ a b => absurd b a⟩
theorem Gr.sub0 (g : Gr G H G1 H1) (hs : Same G H) : Same G H1 := hs.trans g.keep
theorem Gr.trans (g : Gr G H G1 H1) (f : Gr G1 H1 G2 H2) : Gr G H G2 H2 := by
  refine ⟨f.sub, g.ext.trans f.ext, g.keep.trans f.keep, fun a h2 h0 => ?_⟩
  by_cases e : G1 a = none
  · exact g.keep.free (f.new a h2 e)
  · exact g.new a e h0
theorem Gr.fr (g : Gr G H G1 H1) (hp : H1 p = none) : Gr G H (upd G1 p o) (upd H1 p o) := by
  have gp : G1 p = none := g.sub.free hp
  refine ⟨fun b x e => ?_, fun b x e => ?_, fun b x e => ?_, fun a e h => ?_⟩
  · by_cases hb : b = p
    · subst hb; rw [upd_same] at e ⊢; exact e
    · rw [upd_ne hb] at e ⊢; exact g.sub b x e
  · have z := g.ext b x e
    rw [upd_ne (ne_of_none z gp)]; exact z
  · have z := g.keep b x e
    rw [upd_ne (ne_of_none z hp)]; exact z
  · by_cases hb : a = p
    · subst hb; exact g.keep.free hp
    · rw [upd_ne hb] at e; exact g.new a e h
theorem Gr.tmp (g : Gr G H G1 H1) (hp : H1 p = none) : Gr G H G1 (upd H1 p o) := by
  refine ⟨fun b x e => ?_, g.ext, fun b x e => ?_, g.new⟩
  · have z := g.sub b x e
    rw [upd_ne (ne_of_none z hp)]; exact z
  · have z := g.keep b x e
    rw [upd_ne (ne_of_none z hp)]; exact z
/-- an object that neither G1 nor the first heap knows is changed -/
theorem Gr.set (g : Gr G H G1 H1) (h0 : H D = none) (h1 : G1 D = none) : Gr G H G1 (upd H1 D o) := by
  refine ⟨fun b x e => ?_, g.ext, fun b x e => ?_, g.new⟩
  · have z := g.sub b x e
    rw [upd_ne (ne_of_none e h1)]; exact z
  · have z := g.keep b x e
    rw [upd_ne (ne_of_none e h0)]; exact z
theorem Gr.freeze (g : Gr G H G1 H1) (h0 : H D = none) (h1 : H1 D = some o) : Gr G H (upd G1 D o) H1 := by
  refine ⟨fun b x e => ?_, fun b x e => ?_, g.keep, fun a e h => ?_⟩
  · by_cases hb : b = D
    · subst hb; rw [upd_same] at e; rw [← e]; exact h1
    · rw [upd_ne hb] at e; exact g.sub b x e
  · have z := g.ext b x e
    by_cases hb : b = D
    · subst hb
      have y := g.sub b x z
      rw [upd_same, ← h1]; exact y
    · rw [upd_ne hb]; exact z
  · by_cases hb : a = D
    · subst hb; exact h0
    · rw [upd_ne hb] at e; exact g.new a e h
/-- what was there and unknown to the ghost stays unknown -/
theorem Gr.out (g : Gr G H G1 H1) (h : H D = some o) (n : G D = none) : G1 D = none := by
  cases e : G1 D with
  | none => rfl
  | some x =>
    have z := g.new D (by rw [e]; simp) n
    rw [h] at z; cases z
end
/-! ### data -/
mutual
/-- v is the data d, all of it known to the heap -/
inductive Dq (H : Hp) : V → PyData → Prop
  | non : Dq H .non .none
  | bl (b : Bool) : Dq H (.bl b) (.bool b)
  | int (i : Int) : Dq H (.int i) (.int i)
  | str (x : PySem.Str) : Dq H (.str x) (.str x)
  | lst {a : Addr} {xs : List V} {ds : List PyData} : H a = some (.lst xs) → DqAll H xs ds → Dq H (.ref a) (.list ds)
  | tup {a : Addr} {xs : List V} {ds : List PyData} : H a = some (.tup xs) → DqAll H xs ds → Dq H (.ref a) (.tuple ds)
inductive DqAll (H : Hp) : List V → List PyData → Prop
  | nil : DqAll H [] []
  | cons {v : V} {vs : List V} {d : PyData} {ds : List PyData} : Dq H v d → DqAll H vs ds → DqAll H (v :: vs) (d :: ds)
end
section
variable {G G' H : Hp} {v : V} {d : PyData} {vs : List V} {ds : List PyData} {a : Addr} {xs : List V}
theorem sqT_mono {K : PySem.W.Frag} (e : Same G G') (h : SqT K G a xs) : SqT K G' a xs := by
  rcases h with (h | ⟨o, h⟩) | h
  · exact .inl (.inl (e _ _ h))
  · exact .inl (.inr ⟨o, e _ _ h⟩)
  · exact .inr h
mutual
theorem Dq.mono (e : Same G G') : ∀ {d : PyData} {v : V}, Dq G v d → Dq G' v d
  | _, _, .non => .non
  | _, _, .bl b => .bl b
  | _, _, .int i => .int i
  | _, _, .str x => .str x
  | _, _, .lst h t => .lst (e _ _ h) (DqAll.mono e t)
  | _, _, .tup h t => .tup (e _ _ h) (DqAll.mono e t)
theorem DqAll.mono (e : Same G G') : ∀ {ds : List PyData} {vs : List V}, DqAll G vs ds → DqAll G' vs ds
  | _, _, .nil => .nil
  | _, _, .cons h t => .cons (Dq.mono e h) (DqAll.mono e t)
end
mutual
theorem Dq.dp {K : PySem.W.Frag} : ∀ {d : PyData} {v : V}, Dq G v d → Dp K G v d
  | _, _, .non => .non
  | _, _, .bl b => .bl b
  | _, _, .int i => .int i
  | _, _, .str x => .str x
  | _, _, .lst h t => .lst (.inl (.inl h)) (DqAll.dp t)
  | _, _, .tup h t => .tup (.inl (.inl h)) (DqAll.dp t)
theorem DqAll.dp {K : PySem.W.Frag} : ∀ {ds : List PyData} {vs : List V}, DqAll G vs ds → DpAll K G vs ds
  | _, _, .nil => .nil
  | _, _, .cons h t => .cons (Dq.dp h) (DqAll.dp t)
end
theorem DqAll.length : ∀ {vs : List V} {ds : List PyData}, DqAll G vs ds → vs.length = ds.length
  | _, _, .nil => rfl
  | _, _, .cons _ t => congrArg (· + 1) (DqAll.length t)
theorem DqAll.append : ∀ {vs ws : List V} {ds es : List PyData}, DqAll G vs ds → DqAll G ws es → DqAll G (vs ++ ws) (ds ++ es)
  | _, _, _, _, .nil, s => s
  | _, _, _, _, .cons h t, s => .cons h (DqAll.append t s)
theorem DqAll.get : ∀ {vs : List V} {ds : List PyData} {i : Nat} {d : PyData}, DqAll G vs ds → ds[i]? = some d → ∃ v, vs[i]? = some v ∧ Dq G v d
  | _, _, _, _, .nil, e => by simp at e
  | _, _, 0, _, .cons h _, e => by simp at e; subst e; exact ⟨_, rfl, h⟩
  | _, _, i + 1, d, .cons _ t, e => by
    obtain ⟨u, h1, h2⟩ := DqAll.get (i := i) (d := d) t (by simpa using e)
    exact ⟨u, by simpa using h1, h2⟩
theorem DqAll.getV : ∀ {vs : List V} {ds : List PyData} {i : Nat} {v : V}, DqAll G vs ds → vs[i]? = some v → ∃ d, ds[i]? = some d ∧ Dq G v d
  | _, _, _, _, .nil, e => by simp at e
  | _, _, 0, _, .cons h _, e => by simp at e; subst e; exact ⟨_, rfl, h⟩
  | _, _, i + 1, v, .cons _ t, e => by
    obtain ⟨u, h1, h2⟩ := DqAll.getV (i := i) (v := v) t (by simpa using e)
    exact ⟨u, by simpa using h1, h2⟩
theorem DqAll.drop : ∀ {vs : List V} {ds : List PyData} (n : Nat), DqAll G vs ds → DqAll G (vs.drop n) (ds.drop n)
  | _, _, 0, t => t
  | _, _, _ + 1, .nil => .nil
  | _, _, n + 1, .cons _ t => DqAll.drop n t
theorem DqAll.take : ∀ {vs : List V} {ds : List PyData} (n : Nat), DqAll G vs ds → DqAll G (vs.take n) (ds.take n)
  | _, _, 0, t => .nil
  | _, _, _ + 1, .nil => .nil
  | _, _, n + 1, .cons h t => .cons h (DqAll.take n t)
theorem Dq.tupE (h : Dq G v (.tuple ds)) : ∃ a xs, v = .ref a ∧ G a = some (.tup xs) ∧ DqAll G xs ds := by
  cases h with
  | tup h t => exact ⟨_, _, rfl, h, t⟩
theorem Dq.lstE (h : Dq G v (.list ds)) : ∃ a xs, v = .ref a ∧ G a = some (.lst xs) ∧ DqAll G xs ds := by
  cases h with
  | lst h t => exact ⟨_, _, rfl, h, t⟩
theorem Dq.intE {i : Int} (h : Dq G v (.int i)) : v = .int i := by cases h; rfl
theorem Dq.strE {i : PySem.Str} (h : Dq G v (.str i)) : v = .str i := by cases h; rfl
theorem Dq.nonE (h : Dq G v .none) : v = .non := by cases h; rfl
theorem Dq.blE {b : Bool} (h : Dq G v (.bool b)) : v = .bl b := by cases h; rfl
theorem DqAll.nilE (h : DqAll G vs []) : vs = [] := by cases h; rfl
theorem DqAll.consE (h : DqAll G vs (d :: ds)) : ∃ v ws, vs = v :: ws ∧ Dq G v d ∧ DqAll G ws ds := by
  cases h with
  | cons h t => exact ⟨_, _, rfl, h, t⟩
theorem DqAll.oneE {d : PyData} (h : DqAll G vs [d]) : ∃ v, vs = [v] ∧ Dq G v d := by
  obtain ⟨v, ws, rfl, hv, t⟩ := h.consE
  rw [t.nilE]
  exact ⟨v, rfl, hv⟩
theorem DqAll.twoE {d e : PyData} (h : DqAll G vs [d, e]) : ∃ v w, vs = [v, w] ∧ Dq G v d ∧ Dq G w e := by
  obtain ⟨v, ws, rfl, hv, t⟩ := h.consE
  obtain ⟨w, rfl, h2⟩ := t.oneE
  exact ⟨v, w, rfl, hv, h2⟩
theorem DqAll.threeE {d e f : PyData} (h : DqAll G vs [d, e, f]) : ∃ v w x, vs = [v, w, x] ∧ Dq G v d ∧ Dq G w e ∧ Dq G x f := by
  obtain ⟨v, ws, rfl, hv, t⟩ := h.consE
  obtain ⟨w, x, rfl, h2, h3⟩ := t.twoE
  exact ⟨v, w, x, rfl, hv, h2, h3⟩
theorem DqAll.fourE {d e f g : PyData} (h : DqAll G vs [d, e, f, g]) : ∃ v w x y, vs = [v, w, x, y] ∧ Dq G v d ∧ Dq G w e ∧ Dq G x f ∧ Dq G y g := by
  obtain ⟨v, ws, rfl, hv, t⟩ := h.consE
  obtain ⟨w, x, y, rfl, h2, h3, h4⟩ := t.threeE
  exact ⟨v, w, x, y, rfl, hv, h2, h3, h4⟩
theorem DqAll.fiveE {d e f g i : PyData} (h : DqAll G vs [d, e, f, g, i]) : ∃ v w x y z, vs = [v, w, x, y, z] ∧ Dq G v d ∧ Dq G w e ∧ Dq G x f ∧ Dq G y g ∧ Dq G z i := by
  obtain ⟨v, ws, rfl, hv, t⟩ := h.consE
  obtain ⟨w, x, y, z, rfl, h2, h3, h4, h5⟩ := t.fourE
  exact ⟨v, w, x, y, z, rfl, hv, h2, h3, h4, h5⟩
theorem DqAll.one {v : V} {d : PyData} (h : Dq G v d) : DqAll G [v] [d] := .cons h .nil
theorem DqAll.two {v w : V} {d e : PyData} (h : Dq G v d) (h2 : Dq G w e) : DqAll G [v, w] [d, e] := .cons h (.one h2)
theorem DqAll.three {v w x : V} {d e f : PyData} (h : Dq G v d) (h2 : Dq G w e) (h3 : Dq G x f) : DqAll G [v, w, x] [d, e, f] := .cons h (.two h2 h3)
theorem tp {p : Addr} {xs : List V} {ds : List PyData} (h : G p = some (.tup xs)) (t : DqAll G xs ds) : Dq G (.ref p) (.tuple ds) := .tup h t
theorem ls {p : Addr} {xs : List V} {ds : List PyData} (h : G p = some (.lst xs)) (t : DqAll G xs ds) : Dq G (.ref p) (.list ds) := .lst h t
theorem same_upd {o : HO} (hp : G a = none) : Same G (upd G a o) := fun b x e => by
  rw [upd_ne (ne_of_none e hp)]; exact e
/-- a new frozen tuple, list of data -/
theorem newT {xs : List V} {ds : List PyData} (hp : G a = none) (t : DqAll G xs ds) : Dq (upd G a (.tup xs)) (.ref a) (.tuple ds) := tp upd_same (DqAll.mono (same_upd hp) t)
theorem newL {xs : List V} {ds : List PyData} (hp : G a = none) (t : DqAll G xs ds) : Dq (upd G a (.lst xs)) (.ref a) (.list ds) := ls upd_same (DqAll.mono (same_upd hp) t)
theorem dp_ints : ∀ {ns : List Int}, DqAll G (ns.map V.int) (ns.map PyData.int)
  | [] => .nil
  | _ :: _ => .cons (.int _) dp_ints
theorem dp_intsE : ∀ {ns : List Int} {vs : List V}, DqAll G vs (ns.map PyData.int) → vs = ns.map V.int
  | [], _, .nil => rfl
  | _ :: _, _, .cons h t => by rw [h.intE, dp_intsE t]; rfl
end
/-! ### comprehensions -/
/-- the items made so far, by a relation that grows with the ghost -/
inductive RAll {β : Type} (R : Hp → V → β → Prop) (G : Hp) : List V → List β → Prop
  | nil : RAll R G [] []
  | cons {v : V} {vs : List V} {d : β} {ds : List β} : R G v d → RAll R G vs ds → RAll R G (v :: vs) (d :: ds)
section
variable {β : Type} {R : Hp → V → β → Prop} {G G' : Hp}
theorem RAll.mono (m : ∀ v d, R G v d → R G' v d) : ∀ {vs : List V} {ds : List β}, RAll R G vs ds → RAll R G' vs ds
  | _, _, .nil => .nil
  | _, _, .cons h t => .cons (m _ _ h) (RAll.mono m t)
theorem RAll.append : ∀ {vs ws : List V} {ds es : List β}, RAll R G vs ds → RAll R G ws es → RAll R G (vs ++ ws) (ds ++ es)
  | _, _, _, _, .nil, s => s
  | _, _, _, _, .cons h t, s => .cons h (RAll.append t s)
theorem RAll.length : ∀ {vs : List V} {ds : List β}, RAll R G vs ds → vs.length = ds.length
  | _, _, .nil => rfl
  | _, _, .cons _ t => congrArg (· + 1) (RAll.length t)
theorem RAll.get : ∀ {vs : List V} {ds : List β} {i : Nat} {d : β}, RAll R G vs ds → ds[i]? = some d → ∃ v, vs[i]? = some v ∧ R G v d
  | _, _, _, _, .nil, e => by simp at e
  | _, _, 0, _, .cons h _, e => by simp at e; subst e; exact ⟨_, rfl, h⟩
  | _, _, i + 1, d, .cons _ t, e => by
    obtain ⟨u, h1, h2⟩ := RAll.get (i := i) (d := d) t (by simpa using e)
    exact ⟨u, by simpa using h1, h2⟩
theorem RAll.getV : ∀ {vs : List V} {ds : List β} {i : Nat} {v : V}, RAll R G vs ds → vs[i]? = some v → ∃ d, ds[i]? = some d ∧ R G v d
  | _, _, _, _, .nil, e => by simp at e
  | _, _, 0, _, .cons h _, e => by simp at e; subst e; exact ⟨_, rfl, h⟩
  | _, _, i + 1, v, .cons _ t, e => by
    obtain ⟨u, h1, h2⟩ := RAll.getV (i := i) (v := v) t (by simpa using e)
    exact ⟨u, by simpa using h1, h2⟩
theorem RAll.dp : ∀ {vs : List V} {ds : List PyData}, RAll (fun G v d => Dq G v d) G vs ds → DqAll G vs ds
  | _, _, .nil => .nil
  | _, _, .cons h t => .cons h (RAll.dp t)
theorem RAll.of : ∀ {vs : List V} {ds : List PyData}, DqAll G vs ds → RAll (fun G v d => Dq G v d) G vs ds
  | _, _, .nil => .nil
  | _, _, .cons h t => .cons h (RAll.of t)
end
/-- what the first n turns leave -/
def made {β : Type} (res : Nat → Option β) (n : Nat) : List β := (List.range n).filterMap res
theorem made_succ {β : Type} (res : Nat → Option β) (n : Nat) : made res (n + 1) = made res n ++ (res n).toList := by
  unfold made
  rw [List.range_succ, List.filterMap_append]
  cases h : res n <;> simp [List.filterMap, h]
theorem made_len {β : Type} (res : Nat → Option β) (n : Nat) : (made res n).length ≤ n := by
  unfold made
  have := List.length_filterMap_le res (List.range n)
  simpa using this
/-- made of a list, item by item -/
theorem made_get {α β : Type} (f : α → Option β) (l : List α) : made (fun i => (l[i]?).bind f) l.length = l.filterMap f := by
  have key : ∀ (l m : List α), made (fun i => ((m ++ l)[i]?).bind f) m.length ++ l.filterMap f = made (fun i => ((m ++ l)[i]?).bind f) (m ++ l).length := by
    intro l
    induction l with
    | nil => intro m; simp
    | cons a l ih =>
      intro m
      have z := ih (m ++ [a])
      have e : m ++ [a] ++ l = m ++ a :: l := by simp
      rw [e] at z
      rw [← z, List.length_append, List.length_singleton, made_succ, List.append_assoc]
      congr 1
      rw [List.filterMap_cons]
      have e2 : (m ++ a :: l)[m.length]? = some a := by simp
      rw [e2]
      show _ = (f a).toList ++ _
      cases f a <;> rfl
  have z := key l []
  simpa [made] using z.symm
theorem made_map {α β : Type} (f : α → β) (l : List α) : made (fun i => (l[i]?).map f) l.length = l.map f := by
  have h := made_get (fun a => some (f a)) l
  have e2 : l.filterMap (fun a => some (f a)) = l.map f := by
    induction l with
    | nil => rfl
    | cons a l ih => simp
  rw [e2] at h
  have e : (fun i : Nat => (l[i]?).map f) = fun i : Nat => (l[i]?).bind fun a => some (f a) := by
    funext i
    cases l[i]? <;> rfl
  rw [e]
  exact h
theorem made_all {β : Type} (f : Nat → β) (n : Nat) : made (fun i => some (f i)) n = (List.range n).map f := by
  unfold made
  induction List.range n with
  | nil => rfl
  | cons a l ih => simp
section
variable {J : It} {n : Nat} {GG : Hp → Prop} {Y : Nat → Hp → V → Hp → Prop}
/-- a comprehension over a walk, with the ghost kept -/
theorem lcR {β : Type} {R : Hp → V → β → Prop} {G H H1 : Hp} {Qd : Hp → Prop} {G1 : Hp} (res : Nat → Option β) (mono : ∀ G G' v d, Same G G' → R G v d → R G' v d) (w : Walk J n GG Y) (hn : n ≤ 100000) (g0 : Gr G H G1 H1)
    (hG : ∀ Gi Hi, Gr G1 H1 Gi Hi → GG Hi) {g : TG} {tt : TT} {te : TE} {vs : List Nat} {σ : L2.St} {D : Addr} (hD : H1 D = none)
    (hs : ∀ i x Gi Hi H' (Ok : V → Hp → Prop) (No : Hp → Prop), i < n → Gr G1 H1 Gi Hi → Y i Hi x H' →
      (∀ y G4 H4 d, Gr Gi Hi G4 H4 → R G4 y d → res i = some d → Ok y H4) → (∀ G4 H4, Gr Gi Hi G4 H4 → res i = none → No H4) →
      g x (wipe σ vs) H' fun σ2 H2 => wipe σ2 vs = wipe σ vs ∧ tt σ2 H2 fun b H3 => if b = true then te σ2 H3 Ok else No H3)
    (hd : ∀ G' H' xs, Gr G H G' H' → Same G1 G' → Gr G1 H1 G' H' → G' D = some (.lst xs) → RAll R G' xs (made res n) → Qd H') :
    ∃ W : Nat → Nat → Hp → Prop, (∃ m, W 0 m (upd H1 D (.lst []))) ∧ ∀ i m H, W i m H →
      (J.stop i H ∧ Qd H) ∨ (J.go i H ∧ ∃ Nx : Hp → Prop, (∀ H', Nx H' → ∃ m', m' < m ∧ W (i + 1) m' H') ∧ ∀ x H', J.yld i H x H' → g x (wipe σ vs) H' fun σ2 H2 => wipe σ2 vs = wipe σ vs ∧ tt σ2 H2 fun b H3 =>
        if b = true then te σ2 H3 fun y H4 => ∃ acc, H4 D = some (.lst acc) ∧ acc.length < sizeLine ∧ Nx (upd H4 D (.lst (acc ++ [y]))) else Nx H3) := by
  refine lc_it w (Qd := Qd) (fun i Hi => ∃ Gi acc, Gr G1 H1 Gi Hi ∧ Hi D = some (.lst acc) ∧ Gi D = none ∧ RAll R Gi acc (made res i)) ?_ ?_ ?_ ?_
  · exact ⟨G1, [], (Gr.refl g0.sub).tmp hD, upd_same, g0.sub.free hD, .nil⟩
  · rintro i Hi _ ⟨Gi, acc, gi, _⟩
    exact hG Gi Hi gi
  · rintro i x Hi H' hi ⟨Gi, acc, gi, hacc, gD, ra⟩ y
    refine hs i x Gi Hi H' _ _ hi gi y (fun z G4 H4 d g4 r e => ⟨acc, g4.keep D _ hacc, ?_, G4, acc ++ [z], ?_, upd_same, g4.out hacc gD, ?_⟩) fun G4 H4 g4 e => ⟨G4, acc, gi.trans g4, g4.keep D _ hacc, g4.out hacc gD, ?_⟩
    · have h1 := ra.length
      have h2 := made_len res i
      have : (100000 : Nat) ≤ sizeLine := by decide
      omega
    · exact (gi.trans g4).set hD (g4.out hacc gD)
    · rw [made_succ, e]
      exact (ra.mono fun v d h => mono _ _ v d g4.ext h).append (.cons r .nil)
    · rw [made_succ, e]
      show RAll R G4 acc (made res i ++ [])
      rw [List.append_nil]
      exact ra.mono fun v d h => mono _ _ v d g4.ext h
  · rintro Hn ⟨Gn, acc, gn, hacc, gD, ra⟩
    have g1 := gn.freeze hD hacc
    have e1 : Same Gn (upd Gn D (.lst acc)) := same_upd gD
    exact hd (upd Gn D (.lst acc)) Hn acc (g0.trans g1) g1.ext g1 upd_same (ra.mono fun v d h => mono _ _ v d e1 h)
/-- .. whose items are data -/
theorem lcD {G H H1 : Hp} {Qd : Hp → Prop} {G1 : Hp} (res : Nat → Option PyData) (w : Walk J n GG Y) (hn : n ≤ 100000) (g0 : Gr G H G1 H1)
    (hG : ∀ Gi Hi, Gr G1 H1 Gi Hi → GG Hi) {g : TG} {tt : TT} {te : TE} {vs : List Nat} {σ : L2.St} {D : Addr} (hD : H1 D = none)
    (hs : ∀ i x Gi Hi H' (Ok : V → Hp → Prop) (No : Hp → Prop), i < n → Gr G1 H1 Gi Hi → Y i Hi x H' →
      (∀ y G4 H4 d, Gr Gi Hi G4 H4 → Dq G4 y d → res i = some d → Ok y H4) → (∀ G4 H4, Gr Gi Hi G4 H4 → res i = none → No H4) →
      g x (wipe σ vs) H' fun σ2 H2 => wipe σ2 vs = wipe σ vs ∧ tt σ2 H2 fun b H3 => if b = true then te σ2 H3 Ok else No H3)
    (hd : ∀ G' H', Gr G H G' H' → Gr G1 H1 G' H' → Dq G' (.ref D) (.list (made res n)) → Qd H') :
    ∃ W : Nat → Nat → Hp → Prop, (∃ m, W 0 m (upd H1 D (.lst []))) ∧ ∀ i m H, W i m H →
      (J.stop i H ∧ Qd H) ∨ (J.go i H ∧ ∃ Nx : Hp → Prop, (∀ H', Nx H' → ∃ m', m' < m ∧ W (i + 1) m' H') ∧ ∀ x H', J.yld i H x H' → g x (wipe σ vs) H' fun σ2 H2 => wipe σ2 vs = wipe σ vs ∧ tt σ2 H2 fun b H3 =>
        if b = true then te σ2 H3 fun y H4 => ∃ acc, H4 D = some (.lst acc) ∧ acc.length < sizeLine ∧ Nx (upd H4 D (.lst (acc ++ [y]))) else Nx H3) :=
  lcR (R := fun G v d => Dq G v d) res (fun _ _ _ _ e h => Dq.mono e h) w hn g0 hG hD hs fun G' H' xs g1 _ g2 hx ra => hd G' H' g1 g2 (ls hx ra.dp)
end
/-! ### the promise of a def over data -/
/-- from data to data; ok: what the arguments must be -/
def spD {α : Type} (ar : α → List PyData) (ok : α → Prop) (rs : α → PyData) : Sp := fun vs H Q _ =>
  ∃ (x : α) (G : Hp), Same G H ∧ DqAll G vs (ar x) ∧ ok x ∧ ∀ v G' H', Gr G H G' H' → Dq G' v (rs x) → Q v H'
theorem spD_len {α : Type} {ar : α → List PyData} {ok : α → Prop} {rs : α → PyData} {n : Nat} (h : ∀ x, (ar x).length = n) : ∀ vs H Q E, spD ar ok rs vs H Q E → vs.length = n := by
  rintro vs H Q E ⟨x, G, _, hd, _⟩
  rw [hd.length, h]
end HT5
end partD1
section partM1
set_option Elab.async false
set_option linter.all false
set_option maxRecDepth 100000
namespace HT6
open PySem PySem.Spec PyProof.Rows L2 HT5
/-- what a key may be bound to, or a mPlain action -/
inductive Wt where
  | code (c : PySem.Str) | lay (j : Int) | lock (j : Int) | once (j : Int)
  deriving DecidableEq
inductive Ac where
  | non | thr | w (x : Wt) | dual (c : PySem.Str) (h : Wt) (t : Int) (r : PySem.Str)
  deriving DecidableEq
def Ac.isDual : Ac → Bool
  | .dual .. => true
  | _ => false
abbrev Lay := List (List Ac)
/-- a step: key, is it pressed -/
abbrev Stp := Int × Bool
structure Ev where
  tick : Int
  key : Int
  dn : Bool
  deriving DecidableEq
abbrev Ev.stp (e : Ev) : Stp := (e.key, e.dn)
abbrev Out := Option (Bool × PySem.Str)
abbrev Bd := Nat × Nat × Int
structure Pl where
  locked : List Int
  wait : Option Int
  bound : List (Int × Wt)
  deriving DecidableEq
def pl0 : Pl := ⟨[], none, []⟩
structure Wy where
  pl : Pl
  bounds : List Bd
  ticks : List Int
  choice : List PySem.Str
  res : List Out
/-! ### as data -/
def wayS (b : Bool) : PySem.Str := if b then "down" else "up"
def Wt.word : Wt → PySem.Str
  | .code _ => "code"
  | .lay _ => "layer"
  | .lock _ => "lock"
  | .once _ => "once"
def Wt.val : Wt → PyData
  | .code c => .str c
  | .lay j | .lock j | .once j => .int j
def Wt.d (x : Wt) : PyData := .tuple [.str x.word, x.val]
def Ac.d : Ac → PyData
  | .non => .str "none"
  | .thr => .str "through"
  | .w x => x.d
  | .dual c h t r => .tuple [.str "dual", .str c, h.d, .int t, .str r]
def stpD (s : Stp) : PyData := .tuple [.int s.1, .str (wayS s.2)]
def Ev.d (e : Ev) : PyData := .tuple [.int e.tick, .int e.key, .str (wayS e.dn)]
def layD (L : Lay) : PyData := .list (L.map fun row => .list (row.map Ac.d))
def recD (R : List Ev) : PyData := .list (R.map Ev.d)
def intsD (ns : List Int) : PyData := .list (ns.map .int)
def natsD (ns : List Nat) : PyData := .list (ns.map fun n => .int (n : Nat))
def outD : Out → PyData
  | none => .tuple []
  | some (p, c) => .tuple [.str (if p then "press" else "release"), .str c]
def bdD (b : Bd) : PyData := .tuple [.int (b.1 : Nat), .int (b.2.1 : Nat), .int b.2.2]
def optI : Option Int → PyData
  | none => .none
  | some i => .int i
/-! ### what is allowed -/
def mSigns : List Nat := ("abcdefghijklmnopqrstuvwxyz0123456789" : PySem.Str).cps.toList
def CodeOk (c : PySem.Str) : Prop := 1 ≤ c.length ∧ c.length ≤ 8 ∧ ∀ s ∈ c.cps.toList, s ∈ mSigns
def HoldOk (n : Nat) : Wt → Prop
  | .code c => CodeOk c
  | .lay j => 1 ≤ j ∧ j ≤ (n : Int) - 1
  | _ => False
def mRules : List PySem.Str := ["time", "other", "within"]
def AcOk (layer n : Nat) : Ac → Prop
  | .non => True
  | .thr => 0 < layer
  | .w (.code c) => CodeOk c
  | .w (.lay j) | .w (.lock j) | .w (.once j) => 1 ≤ j ∧ j ≤ (n : Int) - 1
  | .dual c h t r => CodeOk c ∧ HoldOk n h ∧ 1 ≤ t ∧ t ≤ 1000000000 ∧ r ∈ mRules
structure LayOk (L : Lay) : Prop where
  h1 : 1 ≤ L.length
  h6 : L.length ≤ 6
  w1 : 1 ≤ (L.headD []).length
  w16 : (L.headD []).length ≤ 16
  row : ∀ r ∈ L, r.length = (L.headD []).length
  act : ∀ (i : Nat) (r : List Ac), L[i]? = some r → ∀ a ∈ r, AcOk i L.length a
def mWide (L : Lay) : Nat := (L.headD []).length
def stepsOk : List Int → List Stp → Prop
  | _, [] => True
  | dl, (k, true) :: r => k ∉ dl ∧ stepsOk (dl ++ [k]) r
  | dl, (k, false) :: r => k ∈ dl ∧ stepsOk (dl.filter (· ≠ k)) r
structure RecOk (n : Nat) (R : List Ev) : Prop where
  len : R.length ≤ 400
  asc : R.Pairwise fun a b => a.tick ≤ b.tick
  keys : ∀ e ∈ R, 0 ≤ e.key ∧ e.key < n
  alt : stepsOk [] (R.map Ev.stp)
/-! ### the player -/
def Pl.on (p : Pl) (j : Int) : Bool := j == 0 || p.locked.contains j || p.wait == some j || p.bound.any fun b => b.2 == .lay j
def actAt (L : Lay) (l : Nat) (k : Int) : Ac := (L.getD l []).getD k.toNat .non
def mLayers (L : Lay) (p : Pl) : List Nat := (List.range L.length).filter fun l => p.on (l : Nat)
def mFound (L : Lay) (p : Pl) (k : Int) : List (Nat × Ac) := (mLayers L p).map fun l => (l, actAt L l k)
def mLook (L : Lay) (p : Pl) (k : Int) : Nat × Ac := ((mFound L p k).filter fun r => r.2 ≠ .thr).getLastD (0, .non)
def mCarried (a : Ac) (tap : Bool) : Ac := match a with
  | .dual c h _ _ => .w (if tap then .code c else h)
  | a => a
def putB (k : Int) (x : Wt) : List (Int × Wt) → List (Int × Wt)
  | [] => [(k, x)]
  | b :: r => if b.1 = k then (k, x) :: r else b :: putB k x r
def Pl.bind (p : Pl) (k : Int) (x : Wt) : Pl := { p with bound := putB k x p.bound }
def Pl.toggle (p : Pl) (j : Int) : Pl := { p with locked := if p.locked.contains j then p.locked.filter (· ≠ j) else p.locked ++ [j] }
def doWhat (p : Pl) (k : Int) : Ac → Out × Pl
  | .w (.code c) => (some (true, c), p.bind k (.code c))
  | .w (.lay j) => (none, p.bind k (.lay j))
  | .w (.lock j) => (none, p.toggle j)
  | .w (.once j) => (none, { p with wait := some j })
  | _ => (none, p)
def mDown (L : Lay) (p : Pl) (k : Int) (tap : Bool) : Out × Pl := doWhat { p with wait := none } k (mCarried (mLook L p k).2 tap)
def outOf : Option Wt → Out
  | some (.code c) => some (false, c)
  | _ => none
def mUp (p : Pl) (k : Int) : Out × Pl := (outOf (p.bound.lookup k), { p with bound := p.bound.filter (·.1 ≠ k) })
def decGo (own : Int) (r : PySem.Str) : List Int → Nat → List Stp → Option Nat
  | _, _, [] => none
  | later, place, (k, dn) :: rest =>
    if k = own then some place
    else if (r = "other" ∧ dn = true) ∨ (r = "within" ∧ dn = false ∧ k ∈ later) then some place
    else decGo own r (if dn then k :: later else later) (place + 1) rest
def keyAt (S : List Stp) (n : Nat) : Int := (S.getD n (0, false)).1
def tickAt (R : List Ev) (n : Nat) : Int := (R.getD n ⟨0, 0, false⟩).tick
def mDecider (S : List Stp) (n : Nat) (r : PySem.Str) : Option Nat := decGo (keyAt S n) r [] (n + 1) (S.drop (n + 1))
def mSure (R : List Ev) (n : Nat) (t : Int) (r : PySem.Str) : Option Nat := match mDecider (R.map Ev.stp) n r with
  | none => none
  | some p => if tickAt R p - tickAt R n ≥ t then none else some p
def mTapped (R : List Ev) (n : Nat) (a : Ac) : Bool := match a with
  | .dual _ _ t r => match mSure R n t r with
    | none => false
    | some p => keyAt (R.map Ev.stp) p == keyAt (R.map Ev.stp) n
  | _ => false
def step1 (L : Lay) (R : List Ev) (n : Nat) (p : Pl) (e : Ev) : (Option (Nat × Ac) × Out) × Pl :=
  if e.dn then
    let t := mLook L p e.key
    let q := mDown L p e.key (mTapped R n t.2)
    ((some t, q.1), q.2)
  else
    let q := mUp p e.key
    ((none, q.1), q.2)
def stepsGo (L : Lay) (R : List Ev) : Nat → Pl → List Ev → List (Option (Nat × Ac) × Out)
  | _, _, [] => []
  | n, p, e :: r => (step1 L R n p e).1 :: stepsGo L R (n + 1) (step1 L R n p e).2 r
def plGo (L : Lay) (R : List Ev) : Nat → Pl → List Ev → Pl
  | _, p, [] => p
  | n, p, e :: r => plGo L R (n + 1) (step1 L R n p e).2 r
def mSteps (L : Lay) (R : List Ev) : List (Option (Nat × Ac) × Out) := stepsGo L R 0 pl0 R
def mPlayed (L : Lay) (R : List Ev) : List Out := (mSteps L R).map (·.2)
def mFlat (L : Lay) (R : List Ev) : List Out := (mPlayed L R).filter (·.isSome)
/-! ### differences -/
def relax1 (ns : List Int) (b : Bd) : List Int := if ns.getD b.2.1 0 < ns.getD b.1 0 + b.2.2 then ns.set b.2.1 (ns.getD b.1 0 + b.2.2) else ns
def raises1 (ns : List Int) (b : Bd) : Bool := decide (ns.getD b.2.1 0 < ns.getD b.1 0 + b.2.2)
def relaxAll : List Int → List Bd → List Int
  | ns, [] => ns
  | ns, b :: r => relaxAll (relax1 ns b) r
def raisesAll : List Int → List Bd → Bool
  | _, [] => false
  | ns, b :: r => raises1 ns b || raisesAll (relax1 ns b) r
def liftGo (bs : List Bd) : Nat → List Int → Option (List Int)
  | 0, _ => none
  | f + 1, ns => if raisesAll ns bs then liftGo bs f (relaxAll ns bs) else some (relaxAll ns bs)
def mLifted (bs : List Bd) (ns : List Int) : Option (List Int) := liftGo bs (ns.length + 1) ns
/-! ### mWays -/
def tapS (b : Bool) : PySem.Str := if b then "tap" else "hold"
def pressBd (tap : Bool) (n place : Nat) (t : Int) : Bd := if tap then (place, n, 1 - t) else (n, place, t)
def mTurned (L : Lay) (w : Wy) (k : Int) (tap : Bool) (b : Bd) : Option Wy := match mLifted (w.bounds ++ [b]) w.ticks with
  | none => none
  | some t => some ⟨(mDown L w.pl k tap).2, w.bounds ++ [b], t, w.choice ++ [tapS tap], w.res ++ [(mDown L w.pl k tap).1]⟩
def mPlain (L : Lay) (p : Pl) (s : Stp) : Out × Pl := if s.2 then mDown L p s.1 false else mUp p s.1
def mPlay (L : Lay) (w : Wy) (s : Stp) : Wy := { w with pl := (mPlain L w.pl s).2, res := w.res ++ [(mPlain L w.pl s).1] }
def choiceAt (L : Lay) (S : List Stp) (n : Nat) (p : Pl) : Option (Nat × Int) := match (mLook L p (keyAt S n)).2 with
  | .dual _ _ t r => match mDecider S n r with
    | none => none
    | some q => if keyAt S q ≠ keyAt S n then none else some (q, t)
  | _ => none
def mAsked (L : Lay) (S : List Stp) (n : Nat) (s : Stp) (p : Pl) : Option (Nat × Int) := if s.2 then choiceAt L S n p else none
def nextWays (L : Lay) (S : List Stp) (n : Nat) (s : Stp) (w : Wy) : List Wy := match mAsked L S n s w.pl with
  | none => [mPlay L w s]
  | some (q, t) => [true, false].filterMap fun tap => mTurned L w s.1 tap (pressBd tap n q t)
def waysGo (L : Lay) (S : List Stp) : Nat → List Wy → List Stp → List Wy
  | _, ws, [] => ws
  | n, ws, s :: r => waysGo L S (n + 1) (ws.flatMap (nextWays L S n s)) r
def mWays (L : Lay) (S : List Stp) (w : Wy) : List Wy := waysGo L S 0 [w] S
/-! ### halves -/
def mergeF : Nat → List Nat → List Nat → List (List Nat)
  | 0, a, b => [a ++ b]
  | _ + 1, [], b => [b]
  | _ + 1, a :: as, [] => [a :: as]
  | f + 1, a :: as, b :: bs => (mergeF f as (b :: bs)).map (a :: ·) ++ (mergeF f (a :: as) bs).map (b :: ·)
def inHalf (half : List Int) (R : List Ev) (n : Nat) : Bool := half.contains (keyAt (R.map Ev.stp) n)
def hereOf (R : List Ev) (half : List Int) : List Nat := (List.range R.length).filter fun n => !inHalf half R n
def thereOf (R : List Ev) (half : List Int) : List Nat := (List.range R.length).filter fun n => inHalf half R n
def rowsOf (R : List Ev) (half : List Int) : List (List Nat) := mergeF ((hereOf R half).length + (thereOf R half).length) (hereOf R half) (thereOf R half)
def mOff (R : List Ev) (n : Nat) : Int := tickAt R n - tickAt R 0
def mChain (row : List Nat) : List Bd := (List.range (row.length - 1)).map fun p => (p, p + 1, if row.getD p 0 > row.getD (p + 1) 0 then 1 else 0)
def place2 (R : List Ev) (half : List Int) (len : Nat) (p : Nat × Nat) : List Bd :=
  [(len, p.1, mOff R p.2), (p.1, if inHalf half R p.2 then len + 1 else len, - mOff R p.2)]
def enumL {α : Type} : Nat → List α → List (Nat × α)
  | _, [] => []
  | n, x :: r => (n, x) :: enumL (n + 1) r
def arrBounds (R : List Ev) (half : List Int) (row : List Nat) : List Bd := mChain row ++ (enumL 0 row).flatMap (place2 R half row.length)
def orderOf (R : List Ev) (row : List Nat) : List Stp := row.map fun n => ((R.getD n ⟨0, 0, false⟩).stp)
def delaysGo (R : List Ev) (ticks : List Int) : List Int → List (Nat × Nat) → List Int
  | ds, [] => ds
  | ds, (p, n) :: r => delaysGo R ticks (ds.set n (ticks.getD p 0 - mOff R n)) r
def delaysOf (R : List Ev) (row : List Nat) (ticks : List Int) : List Int := delaysGo R ticks (List.replicate row.length 0) (enumL 0 row)
structure Arr where
  least : Int
  outs : List Out
  delays : List Int
  deriving DecidableEq
def arrD (a : Arr) : PyData := .tuple [.int a.least, .list (a.outs.map outD), intsD a.delays]
def arrOf (R : List Ev) (row : List Nat) (w : Wy) : Arr := ⟨w.ticks.getD (row.length + 1) 0, w.res.filter (·.isSome), delaysOf R row w.ticks⟩
def rowArr (L : Lay) (R : List Ev) (half : List Int) (row : List Nat) : List Arr := match mLifted (arrBounds R half row) (List.replicate (row.length + 2) 0) with
  | none => []
  | some t => (mWays L (orderOf R row) ⟨pl0, arrBounds R half row, t, [], []⟩).map (arrOf R row)
def mArrivals (L : Lay) (R : List Ev) (half : List Int) : List Arr := (rowsOf R half).flatMap (rowArr L R half)
def mSafe (L : Lay) (R : List Ev) (half : List Int) (most : Int) : Int := ((mArrivals L R half).filterMap fun a => if a.outs = mFlat L R then none else some (a.least - 1)).foldr min most
/-! ### slack -/
def marginOf (R : List Ev) (n : Nat) (x : Option (Nat × Ac)) : Option Int := match x with
  | some (_, .dual _ _ t r) => match mDecider (R.map Ev.stp) n r with
    | none => none
    | some p => if keyAt (R.map Ev.stp) p = keyAt (R.map Ev.stp) n then
        some (if tickAt R p - tickAt R n < t then (t - 1 - (tickAt R p - tickAt R n)).fdiv 2 else (tickAt R p - tickAt R n - t).fdiv 2)
      else none
  | _ => none
def mMargins (L : Lay) (R : List Ev) : List Int := (enumL 0 (mSteps L R)).filterMap fun p => marginOf R p.1 p.2.1
end HT6
end partM1
section partD2
set_option Elab.async false
set_option linter.all false
set_option maxRecDepth 100000
namespace HT5
open PySem PySem.Spec PyProof.Rows L2
/-- plain data: no truth value, no dict; n levels at most -/
def Fine : Nat → PyData → Prop
  | _, .none => True
  | _, .int _ => True
  | _, .str x => PyData.strOk x = true
  | n + 1, .list xs => ∀ x ∈ xs, Fine n x
  | n + 1, .tuple xs => ∀ x ∈ xs, Fine n x
  | _, _ => False
theorem canLayAll_of : ∀ xs : List PyData, (∀ x ∈ xs, x.canLay0 = true) → PyData.canLayAll0 xs = true
  | [], _ => rfl
  | x :: xs, h => by
    simp only [PyData.canLayAll0, h x List.mem_cons_self, canLayAll_of xs fun y hy => h y (List.mem_cons_of_mem _ hy), Bool.and_self]
theorem depthAll_of {n : Nat} : ∀ xs : List PyData, (∀ x ∈ xs, x.depth ≤ n) → PyData.depthAll xs ≤ n
  | [], _ => Nat.zero_le _
  | x :: xs, h => by
    simp only [PyData.depthAll]
    exact Nat.max_le.mpr ⟨h x List.mem_cons_self, depthAll_of xs fun y hy => h y (List.mem_cons_of_mem _ hy)⟩
theorem Fine.lay : ∀ {n : Nat} {d : PyData}, Fine n d → d.canLay0 = true ∧ d.depth ≤ n
  | n, .none, _ => ⟨rfl, Nat.zero_le _⟩
  | n, .int _, _ => ⟨rfl, Nat.zero_le _⟩
  | n, .str x, h => by
    have h' : PyData.strOk x = true := by cases n <;> exact h
    exact ⟨by simpa [PyData.canLay0] using h', Nat.zero_le _⟩
  | n + 1, .list xs, h => by
    have h' : ∀ x ∈ xs, Fine n x := h
    refine ⟨?_, ?_⟩
    · simp only [PyData.canLay0]; exact canLayAll_of xs fun x hx => (Fine.lay (h' x hx)).1
    · simp only [PyData.depth]; exact Nat.succ_le_succ (depthAll_of xs fun x hx => (Fine.lay (h' x hx)).2)
  | n + 1, .tuple xs, h => by
    have h' : ∀ x ∈ xs, Fine n x := h
    refine ⟨?_, ?_⟩
    · simp only [PyData.canLay0]; exact canLayAll_of xs fun x hx => (Fine.lay (h' x hx)).1
    · simp only [PyData.depth]; exact Nat.succ_le_succ (depthAll_of xs fun x hx => (Fine.lay (h' x hx)).2)
  | 0, .list xs, h => False.elim h
  | 0, .tuple xs, h => False.elim h
  | 0, .bool _, h => False.elim h
  | n + 1, .bool _, h => False.elim h
  | 0, .dict _, h => False.elim h
  | n + 1, .dict _, h => False.elim h
theorem Fine.shaped {n : Nat} {d : PyData} (h : Fine n d) (hn : n ≤ 64) : SeqAt.shaped d = true := by
  unfold SeqAt.shaped
  rw [h.lay.1, decide_eq_true (Nat.le_trans h.lay.2 hn)]
  rfl
theorem Fine.up : ∀ {n : Nat} {d : PyData}, Fine n d → Fine (n + 1) d
  | n, .none, _ => trivial
  | n, .int _, _ => trivial
  | n, .str x, h => by cases n <;> exact h
  | n + 1, .list xs, h => fun x hx => Fine.up ((show ∀ x ∈ xs, Fine n x from h) x hx)
  | n + 1, .tuple xs, h => fun x hx => Fine.up ((show ∀ x ∈ xs, Fine n x from h) x hx)
  | 0, .list xs, h => False.elim h
  | 0, .tuple xs, h => False.elim h
  | 0, .bool _, h => False.elim h
  | n + 1, .bool _, h => False.elim h
  | 0, .dict _, h => False.elim h
  | n + 1, .dict _, h => False.elim h
theorem eqvAll_iff {n : Nat} (ih : ∀ d e, Fine n d → Fine n e → (PyData.eqv d e = true ↔ d = e)) : ∀ xs ys : List PyData, (∀ x ∈ xs, Fine n x) → (∀ y ∈ ys, Fine n y) → (PyData.eqvAll xs ys = true ↔ xs = ys)
  | [], [], _, _ => by simp [PyData.eqvAll]
  | [], y :: ys, _, _ => by simp [PyData.eqvAll]
  | x :: xs, [], _, _ => by simp [PyData.eqvAll]
  | x :: xs, y :: ys, h1, h2 => by
    simp only [PyData.eqvAll, Bool.and_eq_true, List.cons.injEq]
    rw [ih x y (h1 x List.mem_cons_self) (h2 y List.mem_cons_self), eqvAll_iff ih xs ys (fun z hz => h1 z (List.mem_cons_of_mem _ hz)) fun z hz => h2 z (List.mem_cons_of_mem _ hz)]
theorem eqv_iff : ∀ {n : Nat} (d e : PyData), Fine n d → Fine n e → (PyData.eqv d e = true ↔ d = e) := by
  intro n
  induction n with
  | zero =>
    intro d e hd he
    cases d <;> cases e <;> first | exact False.elim hd | exact False.elim he | simp [PyData.eqv]
  | succ n ih =>
    intro d e hd he
    cases d <;> cases e <;> first | exact False.elim hd | exact False.elim he | (simp only [PyData.eqv, PyData.list.injEq, PyData.tuple.injEq]; exact eqvAll_iff ih _ _ hd he) | simp [PyData.eqv]
section
variable {X : Cx}
def rEqQ : R2 := fun x y H Q => ∃ n d e, Dq H x d ∧ Dq H y e ∧ n ≤ 64 ∧ Fine n d ∧ Fine n e ∧ ∀ b : Bool, (b = true ↔ d = e) → Q (.bl b) H
theorem op_eqQ (hu : X.A.units + 64 < cLine) : OpR X (compareOp .Eq) rEqQ := by
  intro pins s σ H x y v u Q I rx ry h
  obtain ⟨n, d, e, hd, he, hn, fd, fe, q⟩ := h
  exact op_eqD hu pins s σ H x y v u Q I rx ry ⟨d, e, hd.dp, he.dp, fd.shaped hn, fe.shaped hn, q _ (eqv_iff d e fd fe)⟩
def rNeQ : R2 := fun x y H Q => ∃ n d e, Dq H x d ∧ Dq H y e ∧ n ≤ 64 ∧ Fine n d ∧ Fine n e ∧ ∀ b : Bool, (b = true ↔ ¬ d = e) → Q (.bl b) H
theorem op_neQ (hu : X.A.units + 64 < cLine) : OpR X (compareOp .NotEq) rNeQ := by
  intro pins s σ H x y v u Q I rx ry h
  obtain ⟨n, d, e, hd, he, hn, fd, fe, q⟩ := h
  refine op_neD hu pins s σ H x y v u Q I rx ry ⟨d, e, hd.dp, he.dp, fd.shaped hn, fe.shaped hn, q _ ?_⟩
  rw [Bool.not_eq_true', ← Bool.not_eq_true, eqv_iff d e fd fe]
/-! isinstance of data -/
def isD (n : String) : PyData → Bool
  | .int _ => n == "int"
  | .str _ => n == "str"
  | .list _ => n == "list"
  | .tuple _ => n == "tuple"
  | _ => false
def rIsQ : List V → Hp → VK → Prop := fun xs H Q => ∃ x n d, xs = [x, .ty n] ∧ Dq H x d ∧ n ∈ ["int", "str", "list", "tuple", "bool"] ∧ (∀ b, d ≠ .bool b) ∧ d ≠ .none ∧ Q (.bl (isD n d)) H
theorem call_isQ : CallR X (.builtin "isinstance") rIsQ := by
  intro pins s σ H xs us Q I r h
  obtain ⟨x, n, d, rfl, hx, hn, hb, hz, q⟩ := h
  have key : ∃ t, TyX X.K H x (.type t) ∧ kitB t n = some (isD n d) := by
    simp only [List.mem_cons, List.not_mem_nil, or_false] at hn
    cases hx with
    | non => exact absurd rfl hz
    | bl b => exact absurd rfl (hb b)
    | int i => exact ⟨"int", .base (.int i), by rcases hn with rfl | rfl | rfl | rfl | rfl <;> (show kitB _ _ = some (_ == _); decide +kernel)⟩
    | str i => exact ⟨"str", .base (.str i), by rcases hn with rfl | rfl | rfl | rfl | rfl <;> (show kitB _ _ = some (_ == _); decide +kernel)⟩
    | lst h t => exact ⟨"list", .base (.lst h), by rcases hn with rfl | rfl | rfl | rfl | rfl <;> (show kitB _ _ = some (_ == _); decide +kernel)⟩
    | tup h t => exact ⟨"tuple", .base (.tup h), by rcases hn with rfl | rfl | rfl | rfl | rfl <;> (show kitB _ _ = some (_ == _); decide +kernel)⟩
  obtain ⟨t, ty, e⟩ := key
  exact call_isi pins s σ H [x, .ty n] us Q I r ⟨x, .ty n, .type t, .type n, isD n d, rfl, .ty n, ty, kit_ty e, q⟩
end
/-! ### rules over objects that the heap knows (no written part in sight) -/
section
variable {X : Cx}
def rIxLq : R2 := fun x y H Q => ∃ p xs i v, x = .ref p ∧ y = .int i ∧ H p = some (.lst xs) ∧ atI xs i = some v ∧ Q v H
theorem ixlq : IxR X rIxLq := by
  intro value slice pins s σ H x y v u Q I rx ry h hs
  obtain ⟨p, xs, i, w, e1, e2, hp, ha, q⟩ := h
  exact ix_list value slice pins s σ H x y v u Q I rx ry ⟨p, xs, i, w, e1, e2, .inl (.inl hp), ha, q⟩ hs
def rIxTq : R2 := fun x y H Q => ∃ p xs i v, x = .ref p ∧ y = .int i ∧ H p = some (.tup xs) ∧ atI xs i = some v ∧ Q v H
theorem ixtq : IxR X rIxTq := by
  intro value slice pins s σ H x y v u Q I rx ry h hs
  obtain ⟨p, xs, i, w, e1, e2, hp, ha, q⟩ := h
  exact ix_tup value slice pins s σ H x y v u Q I rx ry ⟨p, xs, i, w, e1, e2, .inl (.inl hp), ha, q⟩ hs
def rLenL : List V → Hp → VK → Prop := fun xs H Q => ∃ p ys, xs = [.ref p] ∧ H p = some (.lst ys) ∧ Q (.int ys.length) H
theorem lenLq : CallR X (.builtin "len") rLenL := by
  intro pins s σ H xs us Q I r h
  obtain ⟨p, ys, e, hp, q⟩ := h
  exact call_len_seq pins s σ H xs us Q I r ⟨p, ys, e, .inl (.inl (.inl hp)), q⟩
def rLenT : List V → Hp → VK → Prop := fun xs H Q => ∃ p ys, xs = [.ref p] ∧ H p = some (.tup ys) ∧ Q (.int ys.length) H
theorem lenTq : CallR X (.builtin "len") rLenT := by
  intro pins s σ H xs us Q I r h
  obtain ⟨p, ys, e, hp, q⟩ := h
  exact call_len_seq pins s σ H xs us Q I r ⟨p, ys, e, .inr (.inl (.inl hp)), q⟩
def rInLq : R2 := fun x y H Q => ∃ p xs, y = .ref p ∧ H p = some (.lst xs) ∧ flatV x = true ∧ xs.all flatV = true ∧ Q (.bl (inV x xs)) H
theorem inLq : OpR X (compareOp .In) rInLq := by
  intro pins s σ H x y v u Q I rx ry h
  obtain ⟨p, xs, e, hp, f1, f2, q⟩ := h
  exact op_in_seq pins s σ H x y v u Q I rx ry ⟨p, xs, e, .inl (.inl (.inl hp)), f1, f2, q⟩
def rNinLq : R2 := fun x y H Q => ∃ p xs, y = .ref p ∧ H p = some (.lst xs) ∧ flatV x = true ∧ xs.all flatV = true ∧ Q (.bl (!inV x xs)) H
theorem ninLq : OpR X (compareOp .NotIn) rNinLq := by
  intro pins s σ H x y v u Q I rx ry h
  obtain ⟨p, xs, e, hp, f1, f2, q⟩ := h
  exact op_notIn_seq pins s σ H x y v u Q I rx ry ⟨p, xs, e, .inl (.inl (.inl hp)), f1, f2, q⟩
def rInTq : R2 := fun x y H Q => ∃ p xs, y = .ref p ∧ H p = some (.tup xs) ∧ flatV x = true ∧ xs.all flatV = true ∧ Q (.bl (inV x xs)) H
theorem inTq : OpR X (compareOp .In) rInTq := by
  intro pins s σ H x y v u Q I rx ry h
  obtain ⟨p, xs, e, hp, f1, f2, q⟩ := h
  exact op_in_seq pins s σ H x y v u Q I rx ry ⟨p, xs, e, .inr (.inl (.inl hp)), f1, f2, q⟩
def rNinTq : R2 := fun x y H Q => ∃ p xs, y = .ref p ∧ H p = some (.tup xs) ∧ flatV x = true ∧ xs.all flatV = true ∧ Q (.bl (!inV x xs)) H
theorem ninTq : OpR X (compareOp .NotIn) rNinTq := by
  intro pins s σ H x y v u Q I rx ry h
  obtain ⟨p, xs, e, hp, f1, f2, q⟩ := h
  exact op_notIn_seq pins s σ H x y v u Q I rx ry ⟨p, xs, e, .inr (.inl (.inl hp)), f1, f2, q⟩
def rAllq : List V → Hp → VK → Prop := fun vs H Q => ∃ (a : Addr) (bs : List Bool), vs = [V.ref a] ∧ H a = some (.lst (bs.map V.bl)) ∧ Q (.bl (bs.all id)) H
theorem allq (hc : X.calm = true) : CallR X (.builtin "all") rAllq := by
  intro pins s σ H xs us Q I r h
  obtain ⟨p, bs, e, hp, q⟩ := h
  exact cr_all hc pins s σ H xs us Q I r ⟨p, bs, e, .inl (.inl hp), q⟩
def rAnyq : List V → Hp → VK → Prop := fun vs H Q => ∃ (a : Addr) (bs : List Bool), vs = [V.ref a] ∧ H a = some (.lst (bs.map V.bl)) ∧ Q (.bl (bs.any id)) H
theorem anyq (hc : X.calm = true) : CallR X (.builtin "any") rAnyq := by
  intro pins s σ H xs us Q I r h
  obtain ⟨p, bs, e, hp, q⟩ := h
  exact cr_any hc pins s σ H xs us Q I r ⟨p, bs, e, .inl (.inl hp), q⟩
def rMinq : List V → Hp → VK → Prop := fun vs H Q => ∃ (a : Addr) (ns : List Int), vs = [V.ref a] ∧ H a = some (.lst (ns.map V.int)) ∧ 0 < ns.length ∧ ∀ m, m ∈ ns → (∀ y, y ∈ ns → m ≤ y) → Q (.int m) H
theorem minq (hc : X.calm = true) : CallR X (.builtin "min") rMinq := by
  intro pins s σ H xs us Q I r h
  obtain ⟨p, bs, e, hp, h0, q⟩ := h
  exact cr_min hc pins s σ H xs us Q I r ⟨p, bs, e, .inl (.inl hp), h0, q⟩
def rMaxq : List V → Hp → VK → Prop := fun vs H Q => ∃ (a : Addr) (ns : List Int), vs = [V.ref a] ∧ H a = some (.lst (ns.map V.int)) ∧ 0 < ns.length ∧ ∀ m, m ∈ ns → (∀ y, y ∈ ns → y ≤ m) → Q (.int m) H
theorem maxq (hc : X.calm = true) : CallR X (.builtin "max") rMaxq := by
  intro pins s σ H xs us Q I r h
  obtain ⟨p, bs, e, hp, h0, q⟩ := h
  exact cr_max hc pins s σ H xs us Q I r ⟨p, bs, e, .inl (.inl hp), h0, q⟩
def rSlLq : V → Option Int → Option Int → Hp → VK → Prop := fun x lo hi H Q => ∃ a xs, x = .ref a ∧ H a = some (.lst xs) ∧ ∀ p, H p = none → Q (.ref p) (upd H p (.lst (cutV xs lo hi)))
theorem slLq : SlR X rSlLq := by
  intro pins s σ H x v vl vu lo hi sl Q I rx hs pl pu h
  obtain ⟨a, xs, e, hx, q⟩ := h
  exact sl_list pins s σ H x v vl vu lo hi sl Q I rx hs pl pu ⟨a, xs, e, .inl (.inl hx), q⟩
/-- t[lo:hi], not the whole of t -/
def rSlTq : V → Option Int → Option Int → Hp → VK → Prop := fun x lo hi H Q => ∃ a xs, x = .ref a ∧ H a = some (.tup xs) ∧ ¬ (HT.sIx xs.length 0 lo = 0 ∧ HT.sIx xs.length xs.length hi = xs.length) ∧ ∀ p, H p = none → Q (.ref p) (upd H p (.tup (cutV xs lo hi)))
theorem slTq : SlR X rSlTq := by
  intro pins s σ H x v vl vu lo hi sl Q I rx hs pl pu h
  obtain ⟨a, xs, e, hx, hn, q⟩ := h
  exact sl_tupA pins s σ H x v vl vu lo hi sl Q I rx hs pl pu ⟨a, xs, e, .inl (.inl hx), fun z => absurd z hn, fun _ => q⟩
def rListq : List V → Hp → VK → Prop := fun vs H Q => ∃ p ys, vs = [.ref p] ∧ (H p = some (.lst ys) ∨ H p = some (.tup ys)) ∧ ∀ l, H l = none → Q (.ref l) (upd H l (.lst ys))
theorem listq : CallR X (.type "list") rListq := by
  intro pins s σ H xs us Q I r h
  obtain ⟨p, ys, e, hp, q⟩ := h
  exact call_list_of pins s σ H xs us Q I r ⟨p, ys, e, hp.imp (fun z => .inl (.inl z)) (fun z => .inl (.inl z)), q⟩
def rTupq : List V → Hp → VK → Prop := fun vs H Q => ∃ p ys, vs = [.ref p] ∧ H p = some (.lst ys) ∧ ∀ l, H l = none → Q (.ref l) (upd H l (.tup ys))
theorem tupq : CallR X (.type "tuple") rTupq := by
  intro pins s σ H xs us Q I r h
  obtain ⟨p, ys, e, hp, q⟩ := h
  exact call_tuple_of pins s σ H xs us Q I r ⟨p, ys, e, .inl ⟨.inl (.inl hp), q⟩⟩
def tStarq (te : TE) (t : TA) : TA := fun σ H Q => te σ H fun x H1 => ∃ p xs, x = V.ref p ∧ (H1 p = some (.lst xs) ∨ H1 p = some (.tup xs)) ∧ t σ H1 fun ys H2 => Q (xs ++ ys) H2
def gTupq (n : Nat) (t : TGs) : TG := fun v σ H Q => ∃ a xs, v = .ref a ∧ H a = some (.tup xs) ∧ xs.length = n ∧ t xs σ H Q
theorem pg_tupq {es : List Expr} {k : Nat} {t : TGs} {n : Nat} {pos : Pos} (hc : X.calm = true) (h : PGs X es t)
    (hn : (assignEach es X.env).length = n := by rfl) (hst : (assignEach es X.env).findIdx? (·.1) = none := by rfl) : PG X (.Tuple es k pos) (gTupq n t) := by
  have z := pg_tup (pos := pos) (k := k) hc h hn hst
  refine ⟨fun pins s σ H v u Q I r hw => ?_⟩
  obtain ⟨a, xs, e1, hq, hl, hw⟩ := hw
  exact z.run pins s σ H v u Q I r ⟨a, xs, e1, .inl (.inl hq), hl, hw⟩
theorem fldK {K : PySem.W.Frag} {e : Expr} {f : PySem.Str} {pos : Pos} {ta : TE} (he : PE X e ta) (hb : attributeBase e f X.env (eval e X.env) = eval e X.env) (hK : X.K = K := by rfl) : PE X (.Attribute e f pos) (tFld K ta f) := by
  subst hK
  exact pe_fld he hb
def rInQ : R2 := fun x y H Q => ∃ n d ds, Dq H x d ∧ Dq H y (.list ds) ∧ n ≤ 60 ∧ Fine n d ∧ Fine n (.list ds) ∧ ∀ b : Bool, (b = true ↔ d ∈ ds) → Q (.bl b) H
theorem inQ (hu : X.A.units + 65 < cLine) : OpR X (compareOp .In) rInQ := by
  intro pins s σ H x y v u Q I rx ry h
  obtain ⟨n, d, ds, hd, he, hn, fd, fe, q⟩ := h
  refine op_inD hu pins s σ H x y v u Q I rx ry ⟨d, ds, hd.dp, he.dp, fd.shaped (by omega), fe.shaped (by omega), q _ ?_⟩
  rw [List.any_eq_true]
  constructor
  · rintro ⟨z, hz, e⟩
    cases n with
    | zero => exact fe.elim
    | succ n => rw [← (eqv_iff z d (Fine.up ((show ∀ x ∈ ds, Fine n x from fe) z hz)) fd).mp e]; exact hz
  · intro hm
    exact ⟨d, hm, (eqv_iff d d fd fd).mpr rfl⟩
def rNinQ : R2 := fun x y H Q => ∃ n d ds, Dq H x d ∧ Dq H y (.list ds) ∧ n ≤ 60 ∧ Fine n d ∧ Fine n (.list ds) ∧ ∀ b : Bool, (b = true ↔ d ∉ ds) → Q (.bl b) H
theorem ninQ (hu : X.A.units + 65 < cLine) : OpR X (compareOp .NotIn) rNinQ := by
  intro pins s σ H x y v u Q I rx ry h
  obtain ⟨n, d, ds, hd, he, hn, fd, fe, q⟩ := h
  refine op_notInD hu pins s σ H x y v u Q I rx ry ⟨d, ds, hd.dp, he.dp, fd.shaped (by omega), fe.shaped (by omega), q _ ?_⟩
  rw [Bool.not_eq_true', ← Bool.not_eq_true, List.any_eq_true]
  refine not_congr ⟨?_, fun hm => ⟨d, hm, (eqv_iff d d fd fd).mpr rfl⟩⟩
  rintro ⟨z, hz, e⟩
  cases n with
  | zero => exact fe.elim
  | succ n => rw [← (eqv_iff z d (Fine.up ((show ∀ x ∈ ds, Fine n x from fe) z hz)) fd).mp e]; exact hz
end
section
variable {X : Cx}
theorem starq {e : Expr} {es : List Expr} {te : TE} {t : TA} {p : Pos} (he : PE X e te) (hr : PA X es t) (hs : starEach (.Starred e p :: es) X.env = (true, eval e X.env) :: starEach es X.env := by rfl) : PA X (.Starred e p :: es) (tStarq te t) := by
  refine ⟨fun pos pins s σ H Q I h => ?_⟩
  refine PySem.W.items_star (thn (he.run pins s σ H _ I h) fun v s1 ⟨y, H1, I1, ry, a, xs, ey, hx, q⟩ => ?_) hs
  subst ey
  obtain rfl : v = Value.ref a := ry
  refine StX.star_any I1 (hx.symm.imp (fun z => .inl (.inl z)) fun z => .inl (.inl z)) fun us s2 I2 rv => ?_
  exact thn (hr.run pos pins s2 σ H1 _ I2 q) fun ws s3 ⟨vs, H3, I3, r3, q3⟩ => ⟨xs ++ vs, H3, I3, rv.append r3, q3⟩
end
section
variable {X : Cx} {K : PySem.W.Frag}
theorem sqL {H : Hp} {a : Addr} {xs : List V} (h : H a = some (.lst xs)) : SqL K H a xs := .inl (.inl h)
theorem sqT {H : Hp} {a : Addr} {xs : List V} (h : H a = some (.tup xs)) : SqT K H a xs := .inl (.inl h)
theorem walkL {a : Addr} {xs : List V} : Walk (Itl K a) xs.length (fun H => H a = some (.lst xs)) (YAt xs) := walk_list.mono (fun _ h => sqL h) fun _ _ _ _ _ _ y => y
theorem walkT {a : Addr} {xs : List V} : Walk (Itt K a) xs.length (fun H => H a = some (.tup xs)) (YAt xs) := walk_tup.mono (fun _ h => sqT h) fun _ _ _ _ _ _ y => y
theorem walkE {a : Addr} {xs : List V} : Walk (Ite K a) xs.length (fun H => H a = some (.lst xs)) (YPair (fun i => some (.int (i : Nat))) (fun i => xs[i]?)) := walk_enum.mono (fun _ h => sqL h) fun _ _ _ _ _ _ y => y
theorem walkZ {a b : Addr} {xs ys : List V} {n : Nat} (hn : n = min xs.length ys.length) : Walk (Itz K a b) n (fun H => H a = some (.lst xs) ∧ H b = some (.lst ys)) (YPair (fun i => xs[i]?) (fun i => ys[i]?)) := (walk_zip hn).mono (fun _ h => ⟨sqL h.1, sqL h.2⟩) fun _ _ _ _ _ _ y => y
end
/-! ### facts of the built-ins and of the program's own constants -/
structure Bt (mg : Str → Option Value) : Prop where
  len : mg "len" = none
  isinstance : mg "isinstance" = none
  all : mg "all" = none
  any : mg "any" = none
  abs : mg "abs" = none
  max : mg "max" = none
  min : mg "min" = none
  int : mg "int" = none
  bool : mg "bool" = none
  str : mg "str" = none
  list : mg "list" = none
  tuple : mg "tuple" = none
  dict : mg "dict" = none
  range : mg "range" = none
  enumerate : mg "enumerate" = none
  zip : mg "zip" = none
  sorted : mg "sorted" = none
structure Tc (mg : Str → Option Value) (K : PySem.W.Frag) : Prop where
  SIGNS : ∃ u, mg "SIGNS" = some u ∧ RelV (.str "abcdefghijklmnopqrstuvwxyz0123456789") u
  MOST_TIME : ∃ u, mg "MOST_TIME" = some u ∧ RelV (.int 1000000000) u
  MOST_LATE : ∃ u, mg "MOST_LATE" = some u ∧ RelV (.int 1000000000) u
  MOST_EVENTS_values : ∃ u, mg "MOST_EVENTS_values" = some u ∧ RelV (.int 400) u
  MOST_EVENTS_halves : ∃ u, mg "MOST_EVENTS_halves" = some u ∧ RelV (.int 8) u
  TAP : ∃ u, mg "TAP" = some u ∧ RelV (.str "tap") u
  HOLD : ∃ u, mg "HOLD" = some u ∧ RelV (.str "hold") u
def top (i : Nat) : Stmt := PySem.Challenge.pw_holdtap_k56_whole_late_halves.main.body.getD i (.Pass ⟨0, 0, 0, 0⟩)
theorem Gr.same {G H G1 H1 H2 : Hp} (g : Gr G H G1 H1) (e : Same H1 H2) : Gr G H G1 H2 := ⟨g.sub.trans e, g.ext, g.keep.trans e, g.new⟩
theorem Dq.of {G H : Hp} {v : V} {d : PyData} (h : Dq G v d) (e : Same G H) : Dq H v d := Dq.mono e h
theorem DqAll.of {G H : Hp} {v : List V} {d : List PyData} (h : DqAll G v d) (e : Same G H) : DqAll H v d := DqAll.mono e h
theorem same_new {H : Hp} {a : Addr} {o : HO} (h : H a = none) : Same H (upd H a o) := fun b x e => by rw [upd_ne (ne_of_none e h)]; exact e
section
variable {J : It} {n : Nat} {GG : Hp → Prop} {Y : Nat → Hp → V → Hp → Prop}
/-- a comprehension, its list left out of the ghost -/
theorem lcRt {β : Type} {R : Hp → V → β → Prop} {H1 : Hp} {Qd : Hp → Prop} {G1 : Hp} (res : Nat → Option β) (mono : ∀ G G' v d, Same G G' → R G v d → R G' v d) (w : Walk J n GG Y) (hn : n ≤ 100000) (g0 : Same G1 H1)
    (hG : ∀ Gi Hi, Gr G1 H1 Gi Hi → GG Hi) {g : TG} {tt : TT} {te : TE} {vs : List Nat} {σ : L2.St} {D : Addr} (hD : H1 D = none)
    (hs : ∀ i x Gi Hi H' (Ok : V → Hp → Prop) (No : Hp → Prop), i < n → Gr G1 H1 Gi Hi → Y i Hi x H' →
      (∀ y G4 H4 d, Gr Gi Hi G4 H4 → R G4 y d → res i = some d → Ok y H4) → (∀ G4 H4, Gr Gi Hi G4 H4 → res i = none → No H4) →
      g x (wipe σ vs) H' fun σ2 H2 => wipe σ2 vs = wipe σ vs ∧ tt σ2 H2 fun b H3 => if b = true then te σ2 H3 Ok else No H3)
    (hd : ∀ G' H' xs, Gr G1 H1 G' H' → H' D = some (.lst xs) → G' D = none → RAll R G' xs (made res n) → Qd H') :
    ∃ W : Nat → Nat → Hp → Prop, (∃ m, W 0 m (upd H1 D (.lst []))) ∧ ∀ i m H, W i m H →
      (J.stop i H ∧ Qd H) ∨ (J.go i H ∧ ∃ Nx : Hp → Prop, (∀ H', Nx H' → ∃ m', m' < m ∧ W (i + 1) m' H') ∧ ∀ x H', J.yld i H x H' → g x (wipe σ vs) H' fun σ2 H2 => wipe σ2 vs = wipe σ vs ∧ tt σ2 H2 fun b H3 =>
        if b = true then te σ2 H3 fun y H4 => ∃ acc, H4 D = some (.lst acc) ∧ acc.length < sizeLine ∧ Nx (upd H4 D (.lst (acc ++ [y]))) else Nx H3) := by
  refine lc_it w (fun i Hi => ∃ Gi acc, Gr G1 H1 Gi Hi ∧ Hi D = some (.lst acc) ∧ Gi D = none ∧ RAll R Gi acc (made res i)) ?_ ?_ ?_ ?_
  · exact ⟨G1, [], (Gr.refl g0).tmp hD, upd_same, g0.free hD, .nil⟩
  · rintro i Hi _ ⟨Gi, acc, gi, _⟩
    exact hG Gi Hi gi
  · rintro i x Hi H' hi ⟨Gi, acc, gi, hacc, gD, ra⟩ y
    refine hs i x Gi Hi H' _ _ hi gi y (fun z G4 H4 d g4 r e => ⟨acc, g4.keep D _ hacc, ?_, G4, acc ++ [z], ?_, upd_same, g4.out hacc gD, ?_⟩) fun G4 H4 g4 e => ⟨G4, acc, gi.trans g4, g4.keep D _ hacc, g4.out hacc gD, ?_⟩
    · have h1 := ra.length
      have h2 := made_len res i
      have : (100000 : Nat) ≤ sizeLine := by decide
      omega
    · exact (gi.trans g4).set hD (g4.out hacc gD)
    · rw [made_succ, e]
      exact (ra.mono fun v d h => mono _ _ v d g4.ext h).append (.cons r .nil)
    · rw [made_succ, e]
      show RAll R G4 acc (made res i ++ [])
      rw [List.append_nil]
      exact ra.mono fun v d h => mono _ _ v d g4.ext h
  · rintro Hn ⟨Gn, acc, gn, hacc, gD, ra⟩
    exact hd Gn Hn acc gn hacc gD ra
theorem rall_tt {G : Hp} : ∀ {vs : List V} {ds : List Unit}, RAll (fun _ v _ => v = V.bl true) G vs ds → vs = List.replicate ds.length (.bl true)
  | _, _, .nil => rfl
  | _, _, .cons h t => by rw [rall_tt t, h]; rfl
/-- a comprehension all of whose items are True -/
theorem lcT {H1 : Hp} {Qd : Hp → Prop} (w : Walk J n GG Y) (hn : n ≤ 100000) (hG : ∀ Hi, Same H1 Hi → GG Hi) {g : TG} {tt : TT} {te : TE} {vs : List Nat} {σ : L2.St} {D : Addr} (hD : H1 D = none)
    (hs : ∀ i x Hi H' (Ok : V → Hp → Prop), i < n → Same H1 Hi → Y i Hi x H' → (∀ H4, Same Hi H4 → Ok (.bl true) H4) →
      g x (wipe σ vs) H' fun σ2 H2 => wipe σ2 vs = wipe σ vs ∧ tt σ2 H2 fun b H3 => if b = true then te σ2 H3 Ok else False)
    (hd : ∀ H', Same H1 H' → H' D = some (.lst (List.replicate n (.bl true))) → Qd H') (hmono : ∀ (x : V) (σ : L2.St) (H : Hp) (P P' : L2.St → Hp → Prop), (∀ a b, P a b → P' a b) → g x σ H P → g x σ H P') (tmono : ∀ (σ : L2.St) (H : Hp) (P P' : Bool → Hp → Prop), (∀ a b, P a b → P' a b) → tt σ H P → tt σ H P') :
    ∃ W : Nat → Nat → Hp → Prop, (∃ m, W 0 m (upd H1 D (.lst []))) ∧ ∀ i m H, W i m H →
      (J.stop i H ∧ Qd H) ∨ (J.go i H ∧ ∃ Nx : Hp → Prop, (∀ H', Nx H' → ∃ m', m' < m ∧ W (i + 1) m' H') ∧ ∀ x H', J.yld i H x H' → g x (wipe σ vs) H' fun σ2 H2 => wipe σ2 vs = wipe σ vs ∧ tt σ2 H2 fun b H3 =>
        if b = true then te σ2 H3 fun y H4 => ∃ acc, H4 D = some (.lst acc) ∧ acc.length < sizeLine ∧ Nx (upd H4 D (.lst (acc ++ [y]))) else Nx H3) := by
  refine lcR (R := fun _ v (_ : Unit) => v = V.bl true) (fun i => some ()) (fun _ _ _ _ _ h => h) w hn (Gr.refl (Same.refl H1)) (fun Gi Hi gi => hG Hi gi.keep) hD (fun i x Gi Hi H' Ok No hi gi y ok no => ?_) fun G' H' xs _ _ g2 hx ra => ?_
  · refine hmono _ _ _ _ _ (fun σ2 H2 h => ⟨h.1, tmono _ _ _ _ (fun b H3 h3 => ?_) h.2⟩) (hs i x Hi H' Ok hi gi.keep y fun H4 s4 => ok _ Gi H4 () ((Gr.refl gi.sub).same s4) rfl rfl)
    cases b with
    | true => exact h3
    | false => exact h3.elim
  · refine hd H' g2.keep ?_
    have e := rall_tt ra
    have el : (made (fun i => some ()) n).length = n := by
      rw [made_all]
      simp
    rw [el] at e
    rw [g2.sub _ _ hx, e]
end
theorem gName_mono {i : Nat} (x : V) (σ : L2.St) (H : Hp) (P P' : L2.St → Hp → Prop) (h : ∀ a b, P a b → P' a b) (q : gName i x σ H P) : gName i x σ H P' := h _ _ q
theorem tYes_mono (σ : L2.St) (H : Hp) (P P' : Bool → Hp → Prop) (h : ∀ a b, P a b → P' a b) (q : tYes σ H P) : tYes σ H P' := h _ _ q
theorem gTup2_mono {n i j : Nat} (x : V) (σ : L2.St) (H : Hp) (P P' : L2.St → Hp → Prop) (h : ∀ a b, P a b → P' a b) (q : gTupq n (gCons (gName i) (gCons (gName j) gNil)) x σ H P) : gTupq n (gCons (gName i) (gCons (gName j) gNil)) x σ H P' := by
  obtain ⟨a, xs, e1, e2, e3, v, r, e4, v2, r2, e5, e6, q⟩ := q
  exact ⟨a, xs, e1, e2, e3, v, r, e4, v2, r2, e5, e6, h _ _ q⟩
end HT5
end partD2
section partW1
set_option Elab.async false
set_option linter.all false
set_option maxRecDepth 100000
namespace HT7
open PySem PySem.Spec PyProof.Rows L2 HT5 HT6
local macro_rules | `(tactic| walk_at "rd") => `(tactic| repeat (first | refine ⟨_, _, rfl, rfl, ?_⟩ | refine ⟨_, rfl, ?_⟩ | refine ⟨rfl, ?_⟩ | refine iteT ?_ | refine iteF ?_))
def oV : Option Int → V
  | none => .non
  | some i => .int i
def inRange (v : Int) (f l : Option Int) : Bool := (match f with | none => true | some a => decide (a ≤ v)) && (match l with | none => true | some a => decide (v ≤ a))
def sp_is_integer : Sp := fun vs H Q _ => ∃ (v : Int) (f l : Option Int), vs = [.int v, oV f, oV l] ∧ Q (.bl (inRange v f l)) H
def sp_is_code : Sp := fun vs H Q _ => ∃ c, vs = [.str c] ∧ CodeOk c ∧ ∀ H', Same H H' → Q (.bl true) H'
theorem iteB {c : Bool} {A B : Prop} (h1 : c = true → A) (h2 : c = false → B) : if c = true then A else B := by
  cases c with
  | true => exact iteT (h1 rfl)
  | false => exact iteF (h2 rfl)
theorem small {n : Nat} (h : n ≤ 100000) : n ≤ sizeLine := Nat.le_trans h (by decide)
/-- all of a list of truth values made by a comprehension -/
theorem dq_bls {G : Hp} : ∀ {vs : List V} {bs : List Bool}, DqAll G vs (bs.map PyData.bool) → vs = bs.map V.bl
  | _, [], h => by cases h; rfl
  | _, b :: bs, .cons h t => by cases h; rw [dq_bls t]; rfl
section
variable {P : Program} {w : World} {K : PySem.W.Frag} {mg : Str → Option Value} {base : Heap}
abbrev sis_integer : Stmt := top 13
abbrev Nis_integer : List PySem.Str := ["value", "first", "last"]
abbrev Pis_integer : List PySem.Str := ["value", "first", "last"]
theorem scis_integer : FnScope Nis_integer Pis_integer (defScope sis_integer) := ⟨rfl, rfl, rfl, by decide +kernel, rfl, by decide +kernel, by decide +kernel⟩
theorem ok_is_integer {f : Addr} {fd : FuncData} (F : Fun K "is_integer" "is_integer" sis_integer f fd) (B : Bt mg) : FnOk P w K mg base CX0 1 f fd Pis_integer sp_is_integer := by
  refine F.ok scis_integer (fun vs H Q E h => ?_) (fun cdv A outer s H vs Q E hr h => ?_)
  · obtain ⟨v, f, l, rfl, _⟩ := h
    rfl
  · obtain ⟨v, f, l, rfl, k⟩ := h
    have nd := scis_integer.nd
    refine ⟨_, (pss_cons (ps_if (PW.pt (pw_or (pt_not (pt_val (pe_callB call_isQ (by rfl) B.isinstance (by decide +kernel) (pa_cons (pv 0) (pa_cons (pe_bltn (v := .ty "int") (by rfl) B.int (by decide +kernel) rfl) pa_nil))))) (pw_or1 (pt_val (pe_callB call_isQ (by rfl) B.isinstance (by decide +kernel) (pa_cons (pv 0) (pa_cons (pe_bltn (v := .ty "bool") (by rfl) B.bool (by decide +kernel) rfl) pa_nil))))))) (pss_one (ps_ret pe_bl)) pss_nil)
    (pss_one (ps_ret (pe_and (pe_or (pe_cmpR op_isN (pv 1) pe_non (by first | exact nomark _ | rfl)) (pe_one (pe_cmpR op_ge (pv 0) (pv 1) (by first | exact nomark _ | rfl)))) (pe_one (pe_or (pe_cmpR op_isN (pv 2) pe_non (by first | exact nomark _ | rfl)) (pe_one (pe_cmpR op_le (pv 0) (pv 2) (by first | exact nomark _ | rfl))))))))), ?_⟩
    refine ⟨_, rfl, _, "int", .int v, rfl, .int v, by simp, nofun, nofun, true, rfl, iteF ?_⟩
    refine ⟨_, rfl, _, "bool", .int v, rfl, .int v, by simp, nofun, nofun, false, rfl, iteF ?_⟩
    have k2 : ∀ b : Bool, b = inRange v f l → Q (.bl b) H := fun b e => by rw [e]; exact k
    cases f with
    | none =>
      refine ⟨_, rfl, rfl, _, rfl, iteT ⟨_, rfl, iteT ?_⟩⟩
      cases l with
      | none => exact ⟨_, rfl, rfl, _, rfl, iteT (k2 _ rfl)⟩
      | some b => exact ⟨_, rfl, rfl, _, rfl, iteF ⟨_, rfl, _, rfl, _, _, rfl, rfl, k2 _ (by simp [inRange])⟩⟩
    | some a =>
      refine ⟨_, rfl, rfl, _, rfl, iteF ⟨_, rfl, _, rfl, _, _, rfl, rfl, _, rfl, iteB (fun h1 => ?_) fun h1 => k2 _ (by simp [inRange, h1])⟩⟩
      cases l with
      | none => exact ⟨_, rfl, rfl, _, rfl, iteT (k2 _ (by simp [inRange, h1]))⟩
      | some b => exact ⟨_, rfl, rfl, _, rfl, iteF ⟨_, rfl, _, rfl, _, _, rfl, rfl, k2 _ (by simp [inRange, h1])⟩⟩
abbrev sis_code : Stmt := top 14
abbrev Nis_code : List PySem.Str := ["value", "sign"]
abbrev Pis_code : List PySem.Str := ["value"]
theorem scis_code : FnScope Nis_code Pis_code (defScope sis_code) := ⟨rfl, rfl, rfl, by decide +kernel, rfl, by decide +kernel, by decide +kernel⟩
theorem ok_is_code {f : Addr} {fd : FuncData} (F : Fun K "is_code" "is_code" sis_code f fd) (B : Bt mg) (T : Tc mg K) : FnOk P w K mg base CX0 1 f fd Pis_code sp_is_code := by
  refine F.ok scis_code (fun vs H Q E h => ?_) (fun cdv A outer s H vs Q E hr h => ?_)
  · obtain ⟨v, rfl, _⟩ := h
    rfl
  · obtain ⟨c, rfl, hc, k⟩ := h
    have nd := scis_code.nd
    have hlen : c.length ≤ sizeLine := small (by have := hc.2.1; omega)
    refine ⟨_, (pss_one (ps_ret (pe_and (pe_callB call_isQ (by rfl) B.isinstance (by decide +kernel) (pa_cons (pv 0) (pa_cons (pe_bltn (v := .ty "str") (by rfl) B.str (by decide +kernel) rfl) pa_nil))) (pe_and (pe_chain op_le op_le pe_int (pe_callB call_len_str (by rfl) B.len (by decide +kernel) (pa_cons (pv 0) pa_nil)) pe_int) (pe_one (pe_callB (allq rfl) (by rfl) B.all (by decide +kernel) (pa_cons (pe_lc (own := [("sign", 1)]) rfl nd (pi_str (pv 0)) (blkOk_by (own := [("sign", 1)]) (N := Nis_code) (sc := defScope sis_code) (by decide +kernel)) (fun _ _ _ _ _ => (pg_name (i := 1) nd rfl (Or.inl rfl))) (fun _ _ _ _ _ => pts_nil) (fun _ _ _ _ _ => (pe_cmpR op_in_sign (pv 1) (C8.pe_gc rfl T.SIGNS) (by first | exact nomark _ | rfl)))) pa_nil))))))), ?_⟩
    refine ⟨_, rfl, _, "str", .str c, rfl, .str c, by simp, nofun, nofun, true, rfl, iteT ?_⟩
    refine ⟨_, rfl, c, rfl, hlen, _, _, rfl, rfl, _, rfl, iteB (fun _ => ?_) (fun h => ?_)⟩
    · refine ⟨_, _, rfl, rfl, _, rfl, iteB (fun _ => ?_) (fun h => ?_)⟩
      · refine ⟨_, rfl, c, rfl, fun D hD => ?_⟩
        refine lcD (fun i => c.cps[i]?.map fun _ => .bool true) (walk_str (z := c)) (by have := hc.2.1; unfold Str.length at this; omega) (Gr.refl (Same.refl H)) (fun _ _ _ => trivial) hD (fun i x Gi Hi H' Ok No hi g y ok no => ?_) fun G' H' g _ dq => ?_
        · obtain ⟨rfl, z, hz, rfl⟩ := y
          refine ⟨rfl, ?_⟩
          refine ⟨_, rfl, z, _, rfl, rfl, ?_⟩
          have hm : z ∈ mSigns := hc.2.2 z (by
            have := Array.mem_of_getElem? hz
            exact Array.mem_toList_iff.mpr this)
          have hd : decide (z ∈ ("abcdefghijklmnopqrstuvwxyz0123456789" : PySem.Str).cps.toList) = true := decide_eq_true hm
          rw [hd]
          exact ok _ Gi H' (.bool true) (Gr.refl g.sub) (.bl true) (by show (c.cps[i]?.map fun _ => PyData.bool true) = some (.bool true); rw [hz]; rfl)
        · obtain ⟨a, xs, e, hx, t⟩ := dq.lstE
          cases e
          have e2 : made (fun i => c.cps[i]?.map fun _ => PyData.bool true) c.cps.size = (List.replicate c.cps.size true).map PyData.bool := by
            have h1 : made (fun i => c.cps[i]?.map fun _ => PyData.bool true) c.cps.size = c.cps.toList.map fun _ => PyData.bool true := by
              have z := made_map (fun _ : Nat => PyData.bool true) c.cps.toList
              simpa using z
            rw [h1, List.map_replicate]
            have h3 : ∀ l : List Nat, l.map (fun _ => PyData.bool true) = List.replicate l.length (PyData.bool true) := fun l => by
              induction l with
              | nil => rfl
              | cons a l ih => rw [List.map_cons, ih]; rfl
            rw [h3]
            simp
          rw [e2] at t
          refine ⟨D, _, rfl, g.sub _ _ (by rw [dq_bls t] at hx; exact hx), ?_⟩
          have e3 : (List.replicate c.cps.size true).all id = true := by simp
          rw [e3]
          exact k H' g.keep
      · exfalso
        have := hc.2.1
        simp at h
        omega
    · exfalso
      have := hc.1
      simp at h
      omega
end
end HT7
end partW1
section partW2
set_option Elab.async false
set_option linter.all false
set_option maxRecDepth 100000
namespace HT7
open PySem PySem.Spec PyProof.Rows L2 HT5 HT6
def HT6w (n : Nat) (x : Wt) : Prop := AcOk 0 n (.w x)
def isHold : Wt → Bool
  | .code _ => true
  | .lay _ => true
  | _ => false
def sp_is_hold : Sp := fun vs H Q _ => ∃ (v : V) (x : Wt) (n : Nat), vs = [v, .int (n : Nat)] ∧ Dq H v x.d ∧ HT6w n x ∧ ∀ H', Same H H' → Q (.bl (isHold x)) H'
def sp_is_action : Sp := fun vs H Q _ => ∃ (v : V) (x : Ac) (l n : Nat), vs = [v, .int (l : Nat), .int (n : Nat)] ∧ Dq H v x.d ∧ AcOk l n x ∧ ∀ H', Same H H' → Q (.bl true) H'
def sp_is_dual : Sp := fun vs H Q _ => ∃ (v : V) (x : Ac), vs = [v] ∧ Dq H v x.d ∧ Q (.bl x.isDual) H
section
variable {P : Program} {w : World} {K : PySem.W.Frag} {mg : Str → Option Value} {base : Heap}
abbrev sis_hold : Stmt := top 15
abbrev Nis_hold : List PySem.Str := ["value", "layers"]
abbrev Pis_hold : List PySem.Str := ["value", "layers"]
theorem scis_hold : FnScope Nis_hold Pis_hold (defScope sis_hold) := ⟨rfl, rfl, rfl, by decide +kernel, rfl, by decide +kernel, by decide +kernel⟩
theorem ok_is_hold {f : Addr} {fd : FuncData} (F : Fun K "is_hold" "is_hold" sis_hold f fd) (B : Bt mg) (c_is_code : C8.Cal P w K mg base 1 "is_code" sp_is_code []) (c_is_integer : C8.Cal P w K mg base 1 "is_integer" sp_is_integer []) : FnOk P w K mg base CX0 2 f fd Pis_hold sp_is_hold := by
  refine F.ok scis_hold (fun vs H Q E h => ?_) (fun cdv A outer s H vs Q E hr h => ?_)
  · obtain ⟨v, x, n, rfl, _⟩ := h
    rfl
  · obtain ⟨v, x, n, rfl, hv, hx, k⟩ := h
    have nd := scis_hold.nd
    refine ⟨_, (pss_cons (ps_if (PW.pt (pw_or (pt_not (pt_val (pe_callB call_isQ (by rfl) B.isinstance (by decide +kernel) (pa_cons (pv 0) (pa_cons (pe_bltn (v := .ty "tuple") (by rfl) B.tuple (by decide +kernel) rfl) pa_nil))))) (pw_or1 (pt_cmpR op_ne (pe_callB lenTq (by rfl) B.len (by decide +kernel) (pa_cons (pv 0) pa_nil)) pe_int (by first | exact nomark _ | rfl))))) (pss_one (ps_ret pe_bl)) pss_nil)
    (pss_cons (ps_if (pt_cmpR op_eq (pe_ix ixtq (pv 0) pe_int (fun _ _ => rfl)) pe_str (by first | exact nomark _ | rfl)) (pss_one (ps_ret (C8.pe_c c_is_code hr (by decide) rfl (pa_cons (pe_ix ixtq (pv 0) pe_int (fun _ _ => rfl)) pa_nil)))) pss_nil)
    (pss_one (ps_ret (pe_and (pe_cmpR op_eq (pe_ix ixtq (pv 0) pe_int (fun _ _ => rfl)) pe_str (by first | exact nomark _ | rfl)) (pe_one (C8.pe_c c_is_integer hr (by decide) rfl (pa_cons (pe_ix ixtq (pv 0) pe_int (fun _ _ => rfl)) (pa_cons pe_int (pa_cons (pe_op op_sub (pv 1) pe_int) pa_nil)))))))))), ?_⟩
    obtain ⟨p, xs, rfl, hp, t⟩ := (show Dq H v (.tuple [.str x.word, x.val]) from hv).tupE
    obtain ⟨v1, v2, rfl, h1, h2⟩ := t.twoE
    have h1 := h1.strE
    subst h1
    refine ⟨_, rfl, _, "tuple", x.d, rfl, hv, by simp, by cases x <;> exact nofun, by cases x <;> exact nofun, true, rfl, iteF ?_⟩
    refine ⟨_, rfl, p, _, rfl, hp, rfl, _, rfl, iteF ?_⟩
    refine ⟨_, rfl, p, _, _, _, rfl, rfl, hp, rfl, ?_⟩
    cases x with
    | code c =>
      have h2 := h2.strE
      subst h2
      refine ⟨rfl, _, rfl, iteT ?_⟩
      refine ⟨_, rfl, p, _, _, _, rfl, rfl, hp, rfl, ?_⟩
      exact ⟨c, rfl, hx, k⟩
    | lay j =>
      have h2 := h2.intE
      subst h2
      refine ⟨rfl, _, rfl, iteF ?_⟩
      refine ⟨_, rfl, p, _, _, _, rfl, rfl, hp, rfl, rfl, _, rfl, iteT ?_⟩
      refine ⟨_, rfl, p, _, _, _, rfl, rfl, hp, rfl, ?_⟩
      refine ⟨_, rfl, _, _, rfl, rfl, _, some 1, some _, rfl, ?_⟩
      have e : inRange j (some 1) (some ((n : Int) - 1)) = true := by
        have : 1 ≤ j ∧ j ≤ (n : Int) - 1 := hx
        simp [inRange, this.1, this.2]
      rw [e]
      exact k H (Same.refl H)
    | lock j =>
      refine ⟨rfl, _, rfl, iteF ?_⟩
      exact ⟨_, rfl, p, _, _, _, rfl, rfl, hp, rfl, rfl, _, rfl, iteF (k H (Same.refl H))⟩
    | once j =>
      refine ⟨rfl, _, rfl, iteF ?_⟩
      exact ⟨_, rfl, p, _, _, _, rfl, rfl, hp, rfl, rfl, _, rfl, iteF (k H (Same.refl H))⟩
abbrev sis_dual : Stmt := top 26
abbrev Nis_dual : List PySem.Str := ["action"]
abbrev Pis_dual : List PySem.Str := ["action"]
theorem scis_dual : FnScope Nis_dual Pis_dual (defScope sis_dual) := ⟨rfl, rfl, rfl, by decide +kernel, rfl, by decide +kernel, by decide +kernel⟩
theorem ok_is_dual {f : Addr} {fd : FuncData} (F : Fun K "is_dual" "is_dual" sis_dual f fd) (B : Bt mg) : FnOk P w K mg base CX0 1 f fd Pis_dual sp_is_dual := by
  refine F.ok scis_dual (fun vs H Q E h => ?_) (fun cdv A outer s H vs Q E hr h => ?_)
  · obtain ⟨v, x, rfl, _⟩ := h
    rfl
  · obtain ⟨v, x, rfl, hv, k⟩ := h
    have nd := scis_dual.nd
    refine ⟨_, (pss_one (ps_ret (pe_and (pe_callB call_isQ (by rfl) B.isinstance (by decide +kernel) (pa_cons (pv 0) (pa_cons (pe_bltn (v := .ty "tuple") (by rfl) B.tuple (by decide +kernel) rfl) pa_nil))) (pe_one (pe_cmpR op_eq (pe_ix ixtq (pv 0) pe_int (fun _ _ => rfl)) pe_str (by first | exact nomark _ | rfl)))))), ?_⟩
    cases x with
    | non => exact ⟨_, rfl, _, "tuple", _, rfl, hv, by simp, nofun, nofun, false, rfl, iteF k⟩
    | thr => exact ⟨_, rfl, _, "tuple", _, rfl, hv, by simp, nofun, nofun, false, rfl, iteF k⟩
    | w x =>
      obtain ⟨p, xs, rfl, hp, t⟩ := (show Dq H v (.tuple [.str x.word, x.val]) from hv).tupE
      obtain ⟨v1, v2, rfl, h1, h2⟩ := t.twoE
      have h1 := h1.strE
      subst h1
      refine ⟨_, rfl, _, "tuple", x.d, rfl, hv, by simp, nofun, nofun, true, rfl, iteT ?_⟩
      refine ⟨_, rfl, p, _, _, _, rfl, rfl, hp, rfl, rfl, ?_⟩
      have e : decide (V.str x.word = V.str "dual") = false := by cases x <;> rfl
      rw [e]
      exact k
    | dual c h t r =>
      obtain ⟨p, xs, rfl, hp, t⟩ := (show Dq H v (.tuple [.str "dual", .str c, h.d, .int t, .str r]) from hv).tupE
      obtain ⟨v1, v2, v3, v4, v5, rfl, h1, h2, h3, h4, h5⟩ := t.fiveE
      have h1 := h1.strE
      subst h1
      refine ⟨_, rfl, _, "tuple", _, rfl, hv, by simp, nofun, nofun, true, rfl, iteT ?_⟩
      exact ⟨_, rfl, p, _, _, _, rfl, rfl, hp, rfl, rfl, k⟩
abbrev sis_action : Stmt := top 16
abbrev Nis_action : List PySem.Str := ["value", "layer", "layers", "word", "code", "hold", "time", "rule"]
abbrev Pis_action : List PySem.Str := ["value", "layer", "layers"]
theorem scis_action : FnScope Nis_action Pis_action (defScope sis_action) := ⟨rfl, rfl, rfl, by decide +kernel, rfl, by decide +kernel, by decide +kernel⟩
theorem ok_is_action {f : Addr} {fd : FuncData} (F : Fun K "is_action" "is_action" sis_action f fd) (B : Bt mg) (T : Tc mg K) (cRULES : ∃ a, mg "RULES" = some (.ref a) ∧ ∀ H, SqT K H a [.str "time", .str "other", .str "within"])
    (c_is_code : C8.Cal P w K mg base 1 "is_code" sp_is_code []) (c_is_integer : C8.Cal P w K mg base 1 "is_integer" sp_is_integer []) (c_is_hold : C8.Cal P w K mg base 2 "is_hold" sp_is_hold []) : FnOk P w K mg base CX0 3 f fd Pis_action sp_is_action := by
  refine F.ok scis_action (fun vs H Q E h => ?_) (fun cdv A outer s H vs Q E hr h => ?_)
  · obtain ⟨v, x, l, n, rfl, _⟩ := h
    rfl
  · obtain ⟨v, x, l, n, rfl, hv, hx, k⟩ := h
    have nd := scis_action.nd
    obtain ⟨aR, mR, tR⟩ := cRULES
    have kb : ∀ (b : Bool) (H' : Hp), b = true → Same H H' → Q (.bl b) H' := fun b H' e h => by rw [e]; exact k H' h
    have gR : ∃ u, mg "RULES" = some u ∧ RelV (.ref aR) u := ⟨_, mR, rfl⟩
    refine ⟨_, (pss_cons (ps_if (pt_val (pe_callB call_isQ (by rfl) B.isinstance (by decide +kernel) (pa_cons (pv 0) (pa_cons (pe_bltn (v := .ty "str") (by rfl) B.str (by decide +kernel) rfl) pa_nil)))) (pss_one (ps_ret (pe_or (pe_cmpR op_eq (pv 0) pe_str (by first | exact nomark _ | rfl)) (pe_one (pe_and (pe_cmpR op_eq (pv 0) pe_str (by first | exact nomark _ | rfl)) (pe_one (pe_cmpR op_gt (pv 1) pe_int (by first | exact nomark _ | rfl)))))))) pss_nil)
    (pss_cons (ps_if (PW.pt (pw_or (pt_not (pt_val (pe_callB call_isQ (by rfl) B.isinstance (by decide +kernel) (pa_cons (pv 0) (pa_cons (pe_bltn (v := .ty "tuple") (by rfl) B.tuple (by decide +kernel) rfl) pa_nil))))) (pw_or1 (pt_cmpR ninTq (pe_callB lenTq (by rfl) B.len (by decide +kernel) (pa_cons (pv 0) pa_nil)) (pe_tup (pa_cons pe_int (pa_cons pe_int pa_nil))) (by first | exact nomark _ | rfl))))) (pss_one (ps_ret pe_bl)) pss_nil)
    (pss_cons (ps_if (pt_cmpR op_eq (pe_callB lenTq (by rfl) B.len (by decide +kernel) (pa_cons (pv 0) pa_nil)) pe_int (by first | exact nomark _ | rfl)) (pss_one (ps_ret (pe_or (C8.pe_c c_is_hold hr (by decide) rfl (pa_cons (pv 0) (pa_cons (pv 2) pa_nil))) (pe_one (pe_and (pe_cmpR inTq (pe_ix ixtq (pv 0) pe_int (fun _ _ => rfl)) (pe_tup (pa_cons pe_str (pa_cons pe_str pa_nil))) (by first | exact nomark _ | rfl)) (pe_one (C8.pe_c c_is_integer hr (by decide) rfl (pa_cons (pe_ix ixtq (pv 0) pe_int (fun _ _ => rfl)) (pa_cons pe_int (pa_cons (pe_op op_sub (pv 2) pe_int) pa_nil)))))))))) pss_nil)
    (pss_cons (ps_asg (pv 0) (pg_tupq (n := 5) rfl (pgs_cons (pg_name (i := 3) nd rfl (Or.inl rfl)) (pgs_cons (pg_name (i := 4) nd rfl (Or.inl rfl)) (pgs_cons (pg_name (i := 5) nd rfl (Or.inl rfl)) (pgs_cons (pg_name (i := 6) nd rfl (Or.inl rfl)) (pgs_cons (pg_name (i := 7) nd rfl (Or.inl rfl)) pgs_nil)))))))
    (pss_cons (ps_if (PW.pt (pw_or (pt_cmpR op_ne (pv 3) pe_str (by first | exact nomark _ | rfl)) (pw_or (pt_not (pt_val (C8.pe_c c_is_code hr (by decide) rfl (pa_cons (pv 4) pa_nil)))) (pw_or1 (pt_not (pt_val (C8.pe_c c_is_hold hr (by decide) rfl (pa_cons (pv 5) (pa_cons (pv 2) pa_nil))))))))) (pss_one (ps_ret pe_bl)) pss_nil)
    (pss_one (ps_ret (pe_and (C8.pe_c c_is_integer hr (by decide) rfl (pa_cons (pv 6) (pa_cons pe_int (pa_cons (C8.pe_gc rfl T.MOST_TIME) pa_nil)))) (pe_one (pe_cmpR op_in_seq (pv 7) (C8.pe_gc rfl gR) (by first | exact nomark _ | rfl))))))))))), ?_⟩
    cases x with
    | non => exact ⟨_, rfl, _, "str", .str "none", rfl, hv, by simp, nofun, nofun, true, rfl, iteT (by
        cases hv
        exact ⟨_, rfl, rfl, _, rfl, iteT (k H (Same.refl H))⟩)⟩
    | thr =>
      cases hv
      refine ⟨_, rfl, _, "str", .str "through", rfl, .str _, by simp, nofun, nofun, true, rfl, iteT ?_⟩
      refine ⟨_, rfl, rfl, _, rfl, iteF ⟨_, rfl, rfl, _, rfl, iteT ⟨_, rfl, _, _, rfl, rfl, ?_⟩⟩⟩
      exact kb _ _ (decide_eq_true (by have : 0 < l := hx; omega)) (Same.refl H)
    | w x =>
      obtain ⟨p, xs, rfl, hp, t⟩ := (show Dq H v (.tuple [.str x.word, x.val]) from hv).tupE
      obtain ⟨v1, v2, rfl, h1, h2⟩ := t.twoE
      have h1 := h1.strE
      subst h1
      refine ⟨_, rfl, _, "str", x.d, rfl, hv, by simp, nofun, nofun, false, rfl, iteF ?_⟩
      refine ⟨_, rfl, _, "tuple", x.d, rfl, hv, by simp, nofun, nofun, true, rfl, iteF ?_⟩
      refine ⟨_, rfl, p, _, rfl, hp, by decide, fun q hq => ?_⟩
      have s1 : Same H (upd H q (.tup [.int 2, .int 5])) := same_new hq
      refine ⟨q, _, rfl, upd_same, rfl, rfl, _, rfl, iteF ?_⟩
      refine ⟨_, rfl, p, _, rfl, (s1 _ _ hp), rfl, _, rfl, iteT ?_⟩
      refine ⟨_, rfl, _, rfl, _, x, n, rfl, hv.of s1, (by cases x <;> exact hx), fun H2 s2 => ?_⟩
      cases x with
      | code c => exact ⟨_, rfl, iteT (k H2 (s1.trans s2))⟩
      | lay j => exact ⟨_, rfl, iteT (k H2 (s1.trans s2))⟩
      | lock j =>
        have h2 := h2.intE
        subst h2
        have hp2 := s2 _ _ (s1 _ _ hp)
        refine ⟨_, rfl, iteF ⟨_, rfl, p, _, _, _, rfl, rfl, hp2, rfl, by decide, fun q2 hq2 => ?_⟩⟩
        have s3 : Same H2 (upd H2 q2 (.tup [.str "lock", .str "once"])) := same_new hq2
        refine ⟨q2, _, rfl, upd_same, rfl, rfl, _, rfl, iteT ?_⟩
        refine ⟨_, rfl, p, _, _, _, rfl, rfl, (s3 _ _ hp2), rfl, _, rfl, _, _, rfl, rfl, _, some 1, some _, rfl, ?_⟩
        have e : inRange j (some 1) (some ((n : Int) - 1)) = true := by
          have : 1 ≤ j ∧ j ≤ (n : Int) - 1 := hx
          simp [inRange, this.1, this.2]
        rw [e]
        exact k _ ((s1.trans s2).trans s3)
      | once j =>
        have h2 := h2.intE
        subst h2
        have hp2 := s2 _ _ (s1 _ _ hp)
        refine ⟨_, rfl, iteF ⟨_, rfl, p, _, _, _, rfl, rfl, hp2, rfl, by decide, fun q2 hq2 => ?_⟩⟩
        have s3 : Same H2 (upd H2 q2 (.tup [.str "lock", .str "once"])) := same_new hq2
        refine ⟨q2, _, rfl, upd_same, rfl, rfl, _, rfl, iteT ?_⟩
        refine ⟨_, rfl, p, _, _, _, rfl, rfl, (s3 _ _ hp2), rfl, _, rfl, _, _, rfl, rfl, _, some 1, some _, rfl, ?_⟩
        have e : inRange j (some 1) (some ((n : Int) - 1)) = true := by
          have : 1 ≤ j ∧ j ≤ (n : Int) - 1 := hx
          simp [inRange, this.1, this.2]
        rw [e]
        exact k _ ((s1.trans s2).trans s3)
    | dual c h t r =>
      obtain ⟨p, xs, rfl, hp, tt⟩ := (show Dq H v (.tuple [.str "dual", .str c, h.d, .int t, .str r]) from hv).tupE
      obtain ⟨v1, v2, v3, v4, v5, rfl, h1, h2, h3, h4, h5⟩ := tt.fiveE
      obtain rfl := h1.strE
      obtain rfl := h2.strE
      obtain rfl := h4.intE
      obtain rfl := h5.strE
      obtain ⟨x1, x2, x3, x4, x5⟩ := hx
      refine ⟨_, rfl, _, "str", _, rfl, hv, by simp, nofun, nofun, false, rfl, iteF ?_⟩
      refine ⟨_, rfl, _, "tuple", _, rfl, hv, by simp, nofun, nofun, true, rfl, iteF ?_⟩
      refine ⟨_, rfl, p, _, rfl, hp, by decide, fun q hq => ?_⟩
      have s1 : Same H (upd H q (.tup [.int 2, .int 5])) := same_new hq
      have hp1 := s1 _ _ hp
      refine ⟨q, _, rfl, upd_same, rfl, rfl, _, rfl, iteF ?_⟩
      refine ⟨_, rfl, p, _, rfl, hp1, rfl, _, rfl, iteF ?_⟩
      refine ⟨_, rfl, p, _, rfl, hp1, rfl, ?_⟩
      refine ⟨_, _, rfl, _, _, rfl, _, _, rfl, _, _, rfl, _, _, rfl, rfl, ?_⟩
      refine ⟨_, rfl, rfl, _, rfl, iteF ?_⟩
      refine ⟨_, rfl, c, rfl, x1, fun H2 s2 => ⟨_, rfl, iteF ?_⟩⟩
      have hv3 : Dq H2 v3 h.d := h3.of (s1.trans s2)
      refine ⟨_, rfl, _, rfl, _, h, n, rfl, hv3, ?_, fun H3 s3 => ⟨_, rfl, ?_⟩⟩
      · cases h with
        | code c => exact x2
        | lay j => exact x2
        | lock j => exact x2.elim
        | once j => exact x2.elim
      have e0 : isHold h = true := by
        cases h with
        | code c => rfl
        | lay j => rfl
        | lock j => exact x2.elim
        | once j => exact x2.elim
      rw [e0]
      refine iteF ?_
      refine ⟨_, rfl, t, some 1, some 1000000000, rfl, ?_⟩
      have e : inRange t (some 1) (some 1000000000) = true := by simp [inRange, x3, x4]
      rw [e]
      refine ⟨_, rfl, iteT ⟨_, rfl, aR, _, rfl, .inr (tR _), rfl, rfl, ?_⟩⟩
      have e2 : inV (V.str r) [.str "time", .str "other", .str "within"] = true := by
        simp only [mRules, List.mem_cons, List.not_mem_nil, or_false] at x5
        rcases x5 with rfl | rfl | rfl <;> rfl
      exact kb _ _ e2 ((s1.trans s2).trans s3)
end
end HT7
end partW2
section partW3
set_option Elab.async false
set_option linter.all false
set_option maxRecDepth 100000
namespace HT7
open PySem PySem.Spec PyProof.Rows L2 HT5 HT6
def sp_is_table : Sp := fun vs H Q _ => ∃ (v : V) (L : Lay), vs = [v] ∧ Dq H v (layD L) ∧ LayOk L ∧ ∀ H', Same H H' → Q (.bl true) H'
def sp_wrong_places : Sp := fun vs H Q _ => ∃ (v : V) (L : Lay), vs = [v] ∧ Dq H v (layD L) ∧ LayOk L ∧ ∀ H' p, Same H H' → H p = none → H' p = some (.lst []) → Q (.ref p) H'
def sp_require_layout : Sp := fun vs H Q _ => ∃ (v : V) (L : Lay), vs = [v] ∧ Dq H v (layD L) ∧ LayOk L ∧ ∀ H', Same H H' → Q .non H'
theorem all_tt (n : Nat) : List.replicate n (V.bl true) = (List.replicate n true).map V.bl := by simp
theorem all_id (n : Nat) : (List.replicate n true).all id = true := by simp
/-- a row of a layout -/
theorem lay_row {H : Hp} {L : Lay} {xs : List V} {i : Nat} {v : V} (t : DqAll H xs (L.map fun row => PyData.list (row.map Ac.d))) (h : xs[i]? = some v) : ∃ r p as, L[i]? = some r ∧ v = .ref p ∧ H p = some (.lst as) ∧ DqAll H as (r.map Ac.d) := by
  obtain ⟨d, hd, hv⟩ := t.getV h
  rw [List.getElem?_map] at hd
  cases e : L[i]? with
  | none => rw [e] at hd; cases hd
  | some r =>
    rw [e] at hd
    cases hd
    obtain ⟨p, as, rfl, hp, ta⟩ := hv.lstE
    exact ⟨r, p, as, rfl, rfl, hp, ta⟩
section
variable {P : Program} {w : World} {K : PySem.W.Frag} {mg : Str → Option Value} {base : Heap}
abbrev sis_table : Stmt := top 17
abbrev Nis_table : List PySem.Str := ["value", "row"]
abbrev Pis_table : List PySem.Str := ["value"]
theorem scis_table : FnScope Nis_table Pis_table (defScope sis_table) := ⟨rfl, rfl, rfl, by decide +kernel, rfl, by decide +kernel, by decide +kernel⟩
theorem ok_is_table {f : Addr} {fd : FuncData} (F : Fun K "is_table" "is_table" sis_table f fd) (B : Bt mg) : FnOk P w K mg base CX0 1 f fd Pis_table sp_is_table := by
  refine F.ok scis_table (fun vs H Q E h => ?_) (fun cdv A outer s H vs Q E hr h => ?_)
  · obtain ⟨v, x, rfl, _⟩ := h
    rfl
  · obtain ⟨v, L, rfl, hv, hL, k⟩ := h
    have nd := scis_table.nd
    obtain ⟨a, xs, rfl, ha, t⟩ := (show Dq H v (.list _) from hv).lstE
    have hl : xs.length = L.length := by rw [t.length, List.length_map]
    obtain ⟨r0, L', rfl⟩ : ∃ r0 L', L = r0 :: L' := by
      cases L with
      | nil => have := hL.h1; simp at this
      | cons r L' => exact ⟨r, L', rfl⟩
    obtain ⟨v0, xs', rfl, hv0, t0⟩ := t.consE
    obtain ⟨p0, as0, rfl, hp0, ta0⟩ := hv0.lstE
    have hl0 : as0.length = r0.length := by rw [ta0.length, List.length_map]
    have b1 : decide ((1 : Int) ≤ ((V.ref p0 :: xs').length : Int)) = true := decide_eq_true (by have := hL.h1; simp only [List.length_cons] at this hl ⊢; omega)
    have b2 : decide (((V.ref p0 :: xs').length : Int) ≤ 6) = true := decide_eq_true (by have := hL.h6; simp only [List.length_cons] at this hl ⊢; omega)
    have b3 : decide ((1 : Int) ≤ (as0.length : Int)) = true := decide_eq_true (by have := hL.w1; simp only [List.headD_cons] at this; omega)
    have b4 : decide ((as0.length : Int) ≤ 16) = true := decide_eq_true (by have := hL.w16; simp only [List.headD_cons] at this; omega)
    refine ⟨_, (pss_cons (ps_if (PW.pt (pw_or (pt_not (pt_val (pe_callB call_isQ (by rfl) B.isinstance (by decide +kernel) (pa_cons (pv 0) (pa_cons (pe_bltn (v := .ty "list") (by rfl) B.list (by decide +kernel) rfl) pa_nil))))) (pw_or (pt_not (pt_chain op_le op_le pe_int (pe_callB lenLq (by rfl) B.len (by decide +kernel) (pa_cons (pv 0) pa_nil)) pe_int)) (pw_or1 (pt_not (pt_val (pe_callB (allq rfl) (by rfl) B.all (by decide +kernel) (pa_cons (pe_lc (own := [("row", 1)]) rfl nd (pi_list (pv 0)) (blkOk_by (own := [("row", 1)]) (N := Nis_table) (sc := defScope sis_table) (by decide +kernel)) (fun _ _ _ _ _ => (pg_name (i := 1) nd rfl (Or.inl rfl))) (fun _ _ _ _ _ => pts_nil) (fun _ _ _ _ _ => (pe_callB call_isQ (by rfl) B.isinstance (by decide +kernel) (pa_cons (pv 1) (pa_cons (pe_bltn (v := .ty "list") (by rfl) B.list (by decide +kernel) rfl) pa_nil))))) pa_nil)))))))) (pss_one (ps_ret pe_bl)) pss_nil)
    (pss_one (ps_ret (pe_and (pe_chain op_le op_le pe_int (pe_callB lenLq (by rfl) B.len (by decide +kernel) (pa_cons (pe_ix ixlq (pv 0) pe_int (fun _ _ => rfl)) pa_nil)) pe_int) (pe_one (pe_callB (allq rfl) (by rfl) B.all (by decide +kernel) (pa_cons (pe_lc (own := [("row", 1)]) rfl nd (pi_list (pv 0)) (blkOk_by (own := [("row", 1)]) (N := Nis_table) (sc := defScope sis_table) (by decide +kernel)) (fun _ _ _ _ _ => (pg_name (i := 1) nd rfl (Or.inl rfl))) (fun _ _ _ _ _ => pts_nil) (fun _ _ _ _ _ => (pe_cmpR op_eq (pe_callB lenLq (by rfl) B.len (by decide +kernel) (pa_cons (pv 1) pa_nil)) (pe_callB lenLq (by rfl) B.len (by decide +kernel) (pa_cons (pe_ix ixlq (pv 0) pe_int (fun _ _ => rfl)) pa_nil)) (by first | exact nomark _ | rfl)))) pa_nil))))))), ?_⟩
    refine ⟨_, rfl, _, "list", _, rfl, hv, by simp, nofun, nofun, true, rfl, ?_⟩
    refine ⟨_, rfl, a, _, rfl, ha, _, _, rfl, rfl, _, rfl, iteB (fun _ => ?_) fun h => absurd (b1.symm.trans h) (by decide)⟩
    refine ⟨_, _, rfl, rfl, _, rfl, ?_⟩
    refine iteB (c := !decide (((V.ref p0 :: xs').length : Int) ≤ 6)) (fun h => by rw [b2] at h; cases h) fun _ => ?_
    refine ⟨_, rfl, a, rfl, ⟨_, sqL ha⟩, fun D hD => ?_⟩
    refine lcT (walkL (xs := V.ref p0 :: xs')) (by have := hL.h6; simp only [List.length_cons] at this hl ⊢; omega) (fun Hi s1 => (s1 _ _ ha)) hD (fun i x Hi H' Ok hi s1 y ok => ?_) (fun H1 s1 hD1 => ?_) gName_mono tYes_mono
    · obtain ⟨rfl, hy⟩ := y
      obtain ⟨r, p, as, hr', rfl, hp, ta⟩ := lay_row t hy
      exact ⟨rfl, _, rfl, _, "list", .list (r.map Ac.d), rfl, (ls hp ta).of s1, by simp, nofun, nofun, ok _ (Same.refl _)⟩
    refine ⟨D, _, rfl, (by rw [hD1, all_tt]), ?_⟩
    rw [all_id]
    refine ⟨true, rfl, ?_⟩
    have ha1 := s1 _ _ ha
    have hp1 := s1 _ _ hp0
    refine ⟨_, rfl, a, _, 0, V.ref p0, rfl, rfl, ha1, atI_nat (j := 0) rfl, p0, _, rfl, hp1, _, _, rfl, rfl, _, rfl, iteB (fun _ => ?_) fun h => absurd (b3.symm.trans h) (by decide)⟩
    refine ⟨_, _, rfl, rfl, _, rfl, iteB (fun _ => ?_) fun h => absurd (b4.symm.trans h) (by decide)⟩
    refine ⟨_, rfl, a, rfl, ⟨_, sqL ha1⟩, fun D2 hD2 => ?_⟩
    refine lcT (walkL (xs := V.ref p0 :: xs')) (by have := hL.h6; simp only [List.length_cons] at this hl ⊢; omega) (fun Hi s2 => (s2 _ _ ha1)) hD2 (fun i x Hi H' Ok hi s2 y ok => ?_) (fun H2 s2 hD3 => ?_) gName_mono tYes_mono
    · obtain ⟨rfl, hy⟩ := y
      obtain ⟨r, p, as, hr', rfl, hp, ta⟩ := lay_row t hy
      have e1 : as.length = as0.length := by
        rw [ta.length, List.length_map, hL.row r (List.mem_of_getElem? hr'), hl0]
        rfl
      refine ⟨rfl, _, rfl, p, _, rfl, (s2 _ _ (s1 _ _ hp)), _, rfl, a, _, 0, V.ref p0, rfl, rfl, (s2 _ _ ha1), atI_nat (j := 0) rfl, p0, _, rfl, (s2 _ _ hp1), rfl, ?_⟩
      rw [e1]
      have e2 : decide (V.int (as0.length : Int) = V.int (as0.length : Int)) = true := decide_eq_true rfl
      rw [e2]
      exact ok _ (Same.refl _)
    refine ⟨D2, _, rfl, (by rw [hD3, all_tt]), ?_⟩
    rw [all_id]
    exact k _ (s1.trans s2)
abbrev swrong_places : Stmt := top 18
abbrev Nwrong_places : List PySem.Str := ["table", "found", "layer", "row", "key", "action"]
abbrev Pwrong_places : List PySem.Str := ["table"]
theorem scwrong_places : FnScope Nwrong_places Pwrong_places (defScope swrong_places) := ⟨rfl, rfl, rfl, by decide +kernel, rfl, by decide +kernel, by decide +kernel⟩
theorem ok_wrong_places {f : Addr} {fd : FuncData} (F : Fun K "wrong_places" "wrong_places" swrong_places f fd) (B : Bt mg) (c_is_action : C8.Cal P w K mg base 3 "is_action" sp_is_action []) : FnOk P w K mg base CX0 4 f fd Pwrong_places sp_wrong_places := by
  refine F.ok scwrong_places (fun vs H Q E h => ?_) (fun cdv A outer s H vs Q E hr h => ?_)
  · obtain ⟨v, x, rfl, _⟩ := h
    rfl
  · obtain ⟨v, L, rfl, hv, hL, k⟩ := h
    have nd := scwrong_places.nd
    obtain ⟨a, xs, rfl, ha, t⟩ := (show Dq H v (.list _) from hv).lstE
    have hl : xs.length = L.length := by rw [t.length, List.length_map]
    refine ⟨_, (pss_cons (ps_set (i := 1) nd rfl (Or.inl rfl) (pe_lst pa_nil))
    (pss_cons (ps_for PassesOwn.never rfl (pi_enum (by rfl) B.enumerate (pa_cons (pv 0) pa_nil)) (pg_tupq (n := 2) rfl (pgs_cons (pg_name (i := 2) nd rfl (Or.inr rfl)) (pgs_cons (pg_name (i := 3) nd rfl (Or.inl rfl)) pgs_nil))) (pss_one (ps_expr (pe_bm PySem.F.plainAttrs_list PySem.F.slot_list_extend PySem.F.type_list_extend mt_extend (pv 1) (pa_cons (pe_lc (own := [("key", 4), ("action", 5)]) rfl nd (pi_enum (by rfl) B.enumerate (pa_cons (pv 3) pa_nil)) (blkOk_by (own := [("key", 4), ("action", 5)]) (N := Nwrong_places) (sc := defScope swrong_places) (by decide +kernel)) (fun _ _ _ _ _ => (pg_tupq (n := 2) rfl (pgs_cons (pg_name (i := 4) nd rfl (Or.inl rfl)) (pgs_cons (pg_name (i := 5) nd rfl (Or.inl rfl)) pgs_nil)))) (fun _ _ _ _ _ => (pts_one (pt_not (pt_val (C8.pe_c c_is_action hr (by decide) rfl (pa_cons (pv 5) (pa_cons (pv 2) (pa_cons (pe_callB lenLq (by rfl) B.len (by decide +kernel) (pa_cons (pv 0) pa_nil)) pa_nil)))))))) (fun _ _ _ _ _ => (pe_tup (pa_cons (pv 2) (pa_cons (pv 4) pa_nil))))) pa_nil)))))
    (pss_one (ps_ret (pv 1))))), ?_⟩
    refine ⟨Nat.zero_le _, fun D hD => ?_⟩
    have hDH : H D = none := hD
    refine ⟨_, rfl, a, xs, rfl, sqL (by rw [upd_ne (ne_of_none ha hD)]; exact ha), ?_⟩
    refine for_it (walkE (K := K) (a := a) (xs := xs)) (fun i σ H' => ∃ v1 v2, σ = [some (.ref a), some (.ref D), v1, v2, none, none] ∧ Same H H' ∧ H' D = some (.lst [])) ⟨none, none, rfl, same_new hD, upd_same⟩ (fun i σ H' _ h => ?_) (fun i x σ H1 H2 hi h y => ?_) fun σ H1 h => ?_
    · obtain ⟨_, _, _, s1, _⟩ := h
      exact (s1 _ _ ha)
    · obtain ⟨v1, v2, rfl, s1, hD1⟩ := h
      obtain ⟨T, x1, y1, rfl, hT, rfl, e1, e2⟩ := y
      cases e1
      obtain ⟨r, p, as, hr', rfl, hp, ta⟩ := lay_row t e2
      have nT : D ≠ T := ne_of_none hD1 hT
      have s2 : Same H (upd H1 T (.tup [.int (i : Nat), .ref p])) := s1.trans (same_new hT)
      refine ⟨T, _, rfl, upd_same, rfl, _, _, rfl, _, _, rfl, rfl, ?_⟩
      refine ⟨_, rfl, .inl ⟨rfl, _, sqL (by rw [upd_ne nT]; exact hD1)⟩, ?_⟩
      refine ⟨_, rfl, p, as, rfl, sqL (s2 _ _ hp), fun D2 hD2 => ?_⟩
      have nD2 : D ≠ D2 := ne_of_none (H := upd H1 T _) (by rw [upd_ne nT]; exact hD1) hD2
      refine lcD (G := H) (G1 := H) (fun _ => none) (walkE (K := K) (a := p) (xs := as)) ?_ (((Gr.refl (Same.refl H)).same s1).tmp hT) (fun Gi Hi g => (g.keep _ _ (s2 _ _ hp))) hD2 (fun j z Gi Hi H' Ok No hj g y ok no => ?_) fun G' H' g1 g2 dq => ?_
      · rw [ta.length, List.length_map, hL.row r (List.mem_of_getElem? hr')]
        have := hL.w16
        omega
      · obtain ⟨T2, x2, y2, rfl, hT2, rfl, e3, e4⟩ := y
        cases e3
        obtain ⟨d, hd, hv'⟩ := ta.getV e4
        rw [List.getElem?_map] at hd
        cases ea : r[j]? with
        | none => rw [ea] at hd; cases hd
        | some ac =>
          rw [ea] at hd
          cases hd
          have s3 : Same H (upd Hi T2 (.tup [.int (j : Nat), y2])) := (s2.trans g.keep).trans (same_new hT2)
          refine ⟨T2, _, rfl, upd_same, rfl, _, _, rfl, _, _, rfl, rfl, rfl, ?_⟩
          refine ⟨_, rfl, _, rfl, _, rfl, a, xs, rfl, (s3 _ _ ha), y2, ac, i, L.length, by rw [hl]; rfl, hv'.of s3, hL.act i r hr' ac (List.mem_of_getElem? ea), fun H5 s5 => ?_⟩
          exact ⟨true, rfl, no Gi H5 ((Gr.refl g.sub).same ((same_new hT2).trans s5)) rfl⟩
      · obtain ⟨a2, xs2, e5, h5, t5⟩ := dq.lstE
        cases e5
        have e6 : made (fun _ => (none : Option PyData)) as.length = [] := by
          unfold made
          induction List.range as.length with
          | nil => rfl
          | cons a l ih => simpa using ih
        rw [e6] at t5
        have e7 := t5.nilE
        subst e7
        have hD4 : H' D = some (.lst []) := g2.keep _ _ (by rw [upd_ne nT]; exact hD1)
        refine ⟨D, D2, _, _, rfl, rfl, hD4, g2.sub _ _ h5, Nat.zero_le _, ?_⟩
        refine ⟨_, _, rfl, fun b o hb => ?_, upd_same⟩
        rw [upd_ne (ne_of_none hb hDH)]
        exact g2.keep _ _ (s2 _ _ hb)
    · obtain ⟨v1, v2, rfl, s1, hD1⟩ := h
      exact ⟨_, rfl, k _ D s1 hDH hD1⟩
abbrev srequire_layout : Stmt := top 19
abbrev Nrequire_layout : List PySem.Str := ["layout", "wrong"]
abbrev Prequire_layout : List PySem.Str := ["layout"]
theorem screquire_layout : FnScope Nrequire_layout Prequire_layout (defScope srequire_layout) := ⟨rfl, rfl, rfl, by decide +kernel, rfl, by decide +kernel, by decide +kernel⟩
theorem ok_require_layout {f : Addr} {fd : FuncData} (F : Fun K "require_layout" "require_layout" srequire_layout f fd) (B : Bt mg) (c_is_table : C8.Cal P w K mg base 1 "is_table" sp_is_table []) (c_wrong_places : C8.Cal P w K mg base 4 "wrong_places" sp_wrong_places []) : FnOk P w K mg base CX0 5 f fd Prequire_layout sp_require_layout := by
  refine F.ok screquire_layout (fun vs H Q E h => ?_) (fun cdv A outer s H vs Q E hr h => ?_)
  · obtain ⟨v, x, rfl, _⟩ := h
    rfl
  · obtain ⟨v, L, rfl, hv, hL, k⟩ := h
    have nd := screquire_layout.nd
    refine ⟨_, (pss_cons (ps_if (pt_not (pt_val (C8.pe_c c_is_table hr (by decide) rfl (pa_cons (pv 0) pa_nil)))) pss_never pss_nil)
    (pss_cons (ps_set (i := 1) nd rfl (Or.inl rfl) (C8.pe_c c_wrong_places hr (by decide) rfl (pa_cons (pv 0) pa_nil)))
    (pss_one (ps_if (pt_cmpR (op_neQ hr.units) (pv 1) (pe_lst pa_nil) (by first | exact nomark _ | rfl)) pss_never pss_nil)))), ?_⟩
    refine ⟨_, rfl, v, L, rfl, hv, hL, fun H1 s1 => ⟨_, rfl, ?_⟩⟩
    refine ⟨_, rfl, v, L, rfl, hv.of s1, hL, fun H2 p s2 hp0 hp => ?_⟩
    refine ⟨_, rfl, Nat.zero_le _, fun q hq => ?_⟩
    have hp3 : (upd H2 q (.lst [])) p = some (.lst []) := by rw [upd_ne (ne_of_none hp hq)]; exact hp
    refine ⟨1, .list [], .list [], ls hp3 .nil, ls upd_same .nil, by decide, (fun x hx => by cases hx), (fun x hx => by cases hx), fun b hb => ⟨b, rfl, ?_⟩⟩
    have e : b = false := by
      cases b with
      | false => rfl
      | true => exact absurd rfl (hb.mp rfl)
    subst e
    exact k _ ((s1.trans s2).trans (same_new hq))
end
end HT7
end partW3
section partW4
set_option Elab.async false
set_option linter.all false
set_option maxRecDepth 100000
namespace HT7
open PySem PySem.Spec PyProof.Rows L2 HT5 HT6
theorem valV_drop {κ : Type} [DecidableEq κ] (kvs : List (κ × V)) (k j : κ) : valV (dropK kvs k) j = if j = k then none else valV kvs j := by
  induction kvs with
  | nil =>
    show none = if j = k then none else none
    split <;> rfl
  | cons p r ih =>
    by_cases e : p.1 = k
    · rw [dropK_pos e, ih]
      by_cases ej : j = k
      · rw [if_pos ej, if_pos ej]
      · rw [if_neg ej, if_neg ej, valV_neg (fun z => ej (by rw [← z, e]))]
    · rw [dropK_neg e]
      by_cases ep : p.1 = j
      · rw [valV_pos ep, if_neg (fun z => e (ep.trans z)), valV_pos ep]
      · rw [valV_neg ep, ih, valV_neg ep]
/-- the keys of a dict are the members of a list -/
def KeysAre (kvs : List (Key × V)) (dl : List Int) : Prop := ∀ k : Int, (valV kvs (Sum.inl k)).isSome = decide (k ∈ dl)
theorem keysAre_put {kvs : List (Key × V)} {dl : List Int} (h : KeysAre kvs dl) (k : Int) (v : V) : KeysAre (putK kvs (Sum.inl k) v) (dl ++ [k]) := fun j => by
  rw [valV_put]
  by_cases e : j = k
  · subst e; simp
  · rw [if_neg (fun z => e (Sum.inl.inj z)), h j]; simp [e]
theorem keysAre_drop {kvs : List (Key × V)} {dl : List Int} (h : KeysAre kvs dl) (k : Int) : KeysAre (dropK kvs (Sum.inl k)) (dl.filter (· ≠ k)) := fun j => by
  rw [valV_drop]
  by_cases e : j = k
  · subst e; simp
  · rw [if_neg (fun z => e (Sum.inl.inj z)), h j]; simp [e]
theorem putK_lenle {kvs : List (Key × V)} {k : Key} {v : V} : (putK kvs k v).length ≤ kvs.length + 1 := by
  unfold putK
  split <;> simp
def sp_wrong_step : Sp := fun vs H Q _ => ∃ (d : Addr) (kvs : List (Key × V)) (dl : List Int) (v : V) (s : Stp) (many : Int), vs = [.ref d, v, .int many] ∧ H d = some (.dK kvs) ∧ KeysAre kvs dl ∧ Dq H v (stpD s) ∧ (0 ≤ s.1 ∧ s.1 ≤ many) ∧ (s.2 = true → s.1 ∉ dl) ∧ (s.2 = false → s.1 ∈ dl) ∧ ∀ H', Same H H' → Q (.bl false) H'
def sp_first_wrong_step : Sp := fun vs H Q _ => ∃ (v : V) (S : List Stp) (many : Int), vs = [v, .int many] ∧ Dq H v (.list (S.map stpD)) ∧ (∀ s ∈ S, 0 ≤ s.1 ∧ s.1 ≤ many) ∧ stepsOk [] S ∧ S.length ≤ 400 ∧ ∀ H', Same H H' → Q .non H'
def sp_first_wrong_event : Sp := fun vs H Q _ => ∃ (v : V) (R : List Ev) (many : Nat), vs = [v, .int ((many : Nat) - 1 : Int)] ∧ Dq H v (recD R) ∧ RecOk many R ∧ ∀ H', Same H H' → Q .non H'
def sp_is_events : Sp := fun vs H Q _ => ∃ (v : V) (R : List Ev), vs = [v] ∧ Dq H v (recD R) ∧ R.length ≤ 400 ∧ Q (.bl true) H
def sp_require_record_with : Sp := fun vs H Q _ => ∃ (v : V) (R : List Ev) (many : Nat), vs = [.int ((many : Nat) - 1 : Int), v] ∧ Dq H v (recD R) ∧ RecOk many R ∧ ∀ H', Same H H' → Q .non H'
def sp_require_record : Sp := fun vs H Q _ => ∃ (v u : V) (L : Lay) (R : List Ev), vs = [v, u] ∧ Dq H v (layD L) ∧ LayOk L ∧ Dq H u (recD R) ∧ RecOk (mWide L) R ∧ ∀ H', Same H H' → Q .non H'
/-- the parts of a step, of an event -/
theorem stp_parts {H : Hp} {v : V} {s : Stp} (h : Dq H v (stpD s)) : ∃ p, v = .ref p ∧ H p = some (.tup [.int s.1, .str (wayS s.2)]) := by
  obtain ⟨p, xs, rfl, hp, t⟩ := h.tupE
  obtain ⟨a, b, rfl, h1, h2⟩ := t.twoE
  rw [h1.intE, h2.strE] at hp
  exact ⟨p, rfl, hp⟩
theorem ev_parts {H : Hp} {v : V} {e : Ev} (h : Dq H v e.d) : ∃ p, v = .ref p ∧ H p = some (.tup [.int e.tick, .int e.key, .str (wayS e.dn)]) := by
  obtain ⟨p, xs, rfl, hp, t⟩ := Dq.tupE h
  obtain ⟨a, b, c, rfl, h1, h2, h3⟩ := t.threeE
  rw [h1.intE, h2.intE, h3.strE] at hp
  exact ⟨p, rfl, hp⟩
theorem ev_at {H : Hp} {R : List Ev} {xs : List V} {i : Nat} {e : Ev} (t : DqAll H xs (R.map Ev.d)) (h : R[i]? = some e) : ∃ p, xs[i]? = some (.ref p) ∧ H p = some (.tup [.int e.tick, .int e.key, .str (wayS e.dn)]) := by
  obtain ⟨v, hv, d⟩ := t.get (i := i) (d := e.d) (by rw [List.getElem?_map, h]; rfl)
  obtain ⟨p, rfl, hp⟩ := ev_parts d
  exact ⟨p, hv, hp⟩
theorem getV_map {α : Type} {H : Hp} {f : α → PyData} {l : List α} {xs : List V} {i : Nat} {v : V} (t : DqAll H xs (l.map f)) (h : xs[i]? = some v) : ∃ x, l[i]? = some x ∧ Dq H v (f x) := by
  obtain ⟨d, hd, hv⟩ := t.getV h
  rw [List.getElem?_map] at hd
  cases e : l[i]? with
  | none => rw [e] at hd; cases hd
  | some x =>
    rw [e] at hd
    cases hd
    exact ⟨x, rfl, hv⟩
theorem get_map {α : Type} {H : Hp} {f : α → PyData} {l : List α} {xs : List V} {i : Nat} {x : α} (t : DqAll H xs (l.map f)) (h : l[i]? = some x) : ∃ v, xs[i]? = some v ∧ Dq H v (f x) := t.get (by rw [List.getElem?_map, h]; rfl)
theorem stepsOk_drop : ∀ {S : List Stp} {dl : List Int} (i : Nat), stepsOk dl S → ∃ dl', stepsOk dl' (S.drop i)
  | S, dl, 0, h => ⟨dl, h⟩
  | [], dl, i + 1, h => ⟨dl, trivial⟩
  | (k, true) :: r, dl, i + 1, h => stepsOk_drop i h.2
  | (k, false) :: r, dl, i + 1, h => stepsOk_drop i h.2
section
variable {P : Program} {w : World} {K : PySem.W.Frag} {mg : Str → Option Value} {base : Heap}
abbrev swrong_step : Stmt := top 20
abbrev Nwrong_step : List PySem.Str := ["down", "step", "many"]
abbrev Pwrong_step : List PySem.Str := ["down", "step", "many"]
theorem scwrong_step : FnScope Nwrong_step Pwrong_step (defScope swrong_step) := ⟨rfl, rfl, rfl, by decide +kernel, rfl, by decide +kernel, by decide +kernel⟩
theorem ok_wrong_step {f : Addr} {fd : FuncData} (F : Fun K "wrong_step" "wrong_step" swrong_step f fd) (B : Bt mg) (c_is_integer : C8.Cal P w K mg base 1 "is_integer" sp_is_integer []) : FnOk P w K mg base CX0 2 f fd Pwrong_step sp_wrong_step := by
  refine F.ok scwrong_step (fun vs H Q E h => ?_) (fun cdv A outer s H vs Q E hr h => ?_)
  · obtain ⟨d, kvs, dl, v, x, m, rfl, _⟩ := h
    rfl
  · obtain ⟨d, kvs, dl, v, ⟨key, dn⟩, m, rfl, hd, hk, hv, hx, h1, h2, k⟩ := h
    have nd := scwrong_step.nd
    have hu := hu_of hr
    refine ⟨_, (pss_cons (ps_if (PW.pt (pw_or (pt_not (pt_val (pe_callB call_isQ (by rfl) B.isinstance (by decide +kernel) (pa_cons (pv 1) (pa_cons (pe_bltn (v := .ty "tuple") (by rfl) B.tuple (by decide +kernel) rfl) pa_nil))))) (pw_or (pt_cmpR op_ne (pe_callB lenTq (by rfl) B.len (by decide +kernel) (pa_cons (pv 1) pa_nil)) pe_int (by first | exact nomark _ | rfl)) (pw_or1 (pt_not (pt_val (C8.pe_c c_is_integer hr (by decide) rfl (pa_cons (pe_ix ixtq (pv 1) pe_int (fun _ _ => rfl)) (pa_cons pe_int (pa_cons (pv 2) pa_nil)))))))))) (pss_one (ps_ret pe_bl)) pss_nil)
    (pss_cons (ps_if (pt_cmpR ninTq (pe_ix ixtq (pv 1) pe_int (fun _ _ => rfl)) (pe_tup (pa_cons pe_str (pa_cons pe_str pa_nil))) (by first | exact nomark _ | rfl)) (pss_one (ps_ret pe_bl)) pss_nil)
    (pss_one (ps_ret (pe_cmpR op_ne (pe_cmpR op_eq (pe_ix ixtq (pv 1) pe_int (fun _ _ => rfl)) pe_str (by first | exact nomark _ | rfl)) (pe_cmp (pc_din hu (pe_ix ixtq (pv 1) pe_int (fun _ _ => rfl)) (pv 0))) (by first | exact nomark _ | rfl)))))), ?_⟩
    obtain ⟨p, rfl, hp⟩ := stp_parts hv
    refine ⟨_, rfl, _, "tuple", _, rfl, hv, by simp, nofun, nofun, true, rfl, ?_⟩
    refine ⟨_, rfl, p, _, rfl, hp, rfl, _, rfl, ?_⟩
    refine ⟨_, rfl, p, _, _, _, rfl, rfl, hp, rfl, _, rfl, key, some 0, some m, rfl, ?_⟩
    have e : inRange key (some 0) (some m) = true := by simp [inRange, hx.1, hx.2]
    rw [e]
    refine ⟨true, rfl, ?_⟩
    refine ⟨_, rfl, p, _, _, _, rfl, rfl, hp, atI_nat (j := 1) rfl, by decide, fun q hq => ?_⟩
    have s1 := same_new (o := .tup [.str "down", .str "up"]) hq
    refine ⟨q, _, rfl, upd_same, rfl, rfl, _, rfl, ?_⟩
    have e2 : inV (V.str (wayS dn)) [V.str "down", V.str "up"] = true := by cases dn <;> rfl
    rw [e2]
    refine ⟨_, rfl, p, _, _, _, rfl, rfl, s1 _ _ hp, atI_nat (j := 1) rfl, rfl, ?_⟩
    refine ⟨_, rfl, p, _, _, _, rfl, rfl, s1 _ _ hp, atI_nat (j := 0) rfl, _, rfl, d, _, rfl, DGet.k (k := Sum.inl key) (s1 _ _ hd), ?_⟩
    refine ⟨rfl, ?_⟩
    have e3 : (!decide (V.bl (decide (V.str (wayS dn) = V.str "up")) = V.bl (valV kvs (Sum.inl key)).isSome)) = false := by
      rw [hk key]
      cases dn with
      | true =>
        have : ¬ key ∈ dl := h1 rfl
        rw [decide_eq_false this]
        rfl
      | false =>
        have : key ∈ dl := h2 rfl
        rw [decide_eq_true this]
        rfl
    rw [e3]
    exact k _ s1
abbrev sfirst_wrong_step : Stmt := top 21
abbrev Nfirst_wrong_step : List PySem.Str := ["steps", "many", "down", "index", "step"]
abbrev Pfirst_wrong_step : List PySem.Str := ["steps", "many"]
theorem scfirst_wrong_step : FnScope Nfirst_wrong_step Pfirst_wrong_step (defScope sfirst_wrong_step) := ⟨rfl, rfl, rfl, by decide +kernel, rfl, by decide +kernel, by decide +kernel⟩
theorem ok_first_wrong_step {f : Addr} {fd : FuncData} (F : Fun K "first_wrong_step" "first_wrong_step" sfirst_wrong_step f fd) (B : Bt mg) (c_wrong_step : C8.Cal P w K mg base 2 "wrong_step" sp_wrong_step []) : FnOk P w K mg base CX0 3 f fd Pfirst_wrong_step sp_first_wrong_step := by
  refine F.ok scfirst_wrong_step (fun vs H Q E h => ?_) (fun cdv A outer s H vs Q E hr h => ?_)
  · obtain ⟨v, S, m, rfl, _⟩ := h
    rfl
  · obtain ⟨v, S, m, rfl, hv, hb, hS, hl, k⟩ := h
    have nd := scfirst_wrong_step.nd
    have hu := hu_of hr
    obtain ⟨a, xs, rfl, ha, t⟩ := hv.lstE
    have hxl : xs.length = S.length := by rw [t.length, List.length_map]
    refine ⟨_, (pss_cons (ps_set (i := 2) nd rfl (Or.inl rfl) pe_dnewK)
    (pss_cons (ps_for PassesOwn.never rfl (pi_enum (by rfl) B.enumerate (pa_cons (pv 0) pa_nil)) (pg_tupq (n := 2) rfl (pgs_cons (pg_name (i := 3) nd rfl (Or.inl rfl)) (pgs_cons (pg_name (i := 4) nd rfl (Or.inl rfl)) pgs_nil))) (pss_cons (ps_if (pt_val (C8.pe_c c_wrong_step hr (by decide) rfl (pa_cons (pv 2) (pa_cons (pv 4) (pa_cons (pv 1) pa_nil))))) (pss_one (ps_ret (pv 3))) pss_nil)
    (pss_one (ps_if (pt_cmpR op_eq (pe_ix ixtq (pv 4) pe_int (fun _ _ => rfl)) pe_str (by first | exact nomark _ | rfl)) (pss_one (ps_dput hu (pv 2) (pe_ix ixtq (pv 4) pe_int (fun _ _ => rfl)) pe_bl rfl)) (pss_one (ps_ddel (pv 2) (pe_ix ixtq (pv 4) pe_int (fun _ _ => rfl))))))))
    (pss_one (ps_ret pe_non)))), ?_⟩
    intro d hd
    refine ⟨_, rfl, a, xs, rfl, sqL (by rw [upd_ne (ne_of_none ha hd)]; exact ha), ?_⟩
    refine for_it (walkE (K := K) (a := a) (xs := xs)) (fun i σ H' => ∃ v1 v2 kvs dl, σ = [some (.ref a), some (.int m), some (.ref d), v1, v2] ∧ Same H H' ∧ H' d = some (.dK kvs) ∧ KeysAre kvs dl ∧ kvs.length ≤ i ∧ stepsOk dl (S.drop i)) ⟨none, none, [], [], rfl, same_new hd, upd_same, fun _ => rfl, Nat.le_refl _, hS⟩ (fun i σ H' _ h => ?_) (fun i x σ H1 H2 hi h y => ?_) fun σ H1 h => ?_
    · obtain ⟨_, _, _, _, _, s1, _⟩ := h
      exact s1 _ _ ha
    · obtain ⟨v1, v2, kvs, dl, rfl, s1, hd1, hk, hkl, hst⟩ := h
      obtain ⟨T, x1, y1, rfl, hT, rfl, e1, e2⟩ := y
      cases e1
      obtain ⟨⟨key, dn⟩, es, dv⟩ := getV_map t e2
      have nT : d ≠ T := ne_of_none hd1 hT
      have s2 : Same H1 (upd H1 T (.tup [.int (i : Nat), y1])) := same_new hT
      have edr : S.drop i = (key, dn) :: S.drop (i + 1) := by
        rw [List.drop_eq_getElem_cons (List.getElem?_eq_some_iff.mp es).1]
        rw [(List.getElem?_eq_some_iff.mp es).2]
      rw [edr] at hst
      obtain ⟨p, rfl, hp⟩ := stp_parts dv
      refine ⟨T, _, rfl, upd_same, rfl, _, _, rfl, _, _, rfl, rfl, ?_⟩
      refine ⟨_, rfl, _, rfl, _, rfl, d, kvs, dl, .ref p, (key, dn), m, rfl, s2 _ _ hd1, hk, dv.of (s1.trans s2), hb _ (List.mem_of_getElem? es), ?_, ?_, fun H3 s3 => ?_⟩
      · rintro rfl; exact hst.1
      · rintro rfl; exact hst.1
      have hp3 := s3 _ _ (s2 _ _ (s1 _ _ hp))
      have hd3 := s3 _ _ (s2 _ _ hd1)
      refine ⟨false, rfl, ?_⟩
      refine ⟨_, rfl, p, _, _, _, rfl, rfl, hp3, atI_nat (j := 1) rfl, rfl, _, rfl, ?_⟩
      cases dn with
      | true =>
        refine ⟨_, rfl, _, rfl, p, _, _, _, rfl, rfl, hp3, atI_nat (j := 0) rfl, ?_⟩
        refine ⟨d, _, rfl, DPut.k (k := Sum.inl key) hd3 (small1000 (by omega)), ?_⟩
        refine ⟨_, _, _, dl ++ [key], rfl, fun b o hb => ?_, upd_same, keysAre_put hk key _, Nat.le_trans putK_lenle (by omega), hst.2⟩
        rw [upd_ne (ne_of_none hb hd)]
        exact s3 _ _ (s2 _ _ (s1 _ _ hb))
      | false =>
        refine ⟨_, rfl, _, rfl, p, _, _, _, rfl, rfl, hp3, atI_nat (j := 0) rfl, ?_⟩
        refine ⟨d, kvs, Sum.inl key, rfl, hd3, rfl, by rw [hk key]; exact decide_eq_true hst.1, ?_⟩
        refine ⟨_, _, _, dl.filter (· ≠ key), rfl, fun b o hb => ?_, upd_same, keysAre_drop hk key, Nat.le_trans (dropK_le _ _) (by omega), hst.2⟩
        rw [upd_ne (ne_of_none hb hd)]
        exact s3 _ _ (s2 _ _ (s1 _ _ hb))
    · obtain ⟨_, _, _, _, rfl, s1, _⟩ := h
      exact k _ s1
abbrev sfirst_wrong_event : Stmt := top 22
abbrev Nfirst_wrong_event : List PySem.Str := ["events", "many", "wrong", "index", "event", "steps", "earlier"]
abbrev Pfirst_wrong_event : List PySem.Str := ["events", "many"]
theorem scfirst_wrong_event : FnScope Nfirst_wrong_event Pfirst_wrong_event (defScope sfirst_wrong_event) := ⟨rfl, rfl, rfl, by decide +kernel, rfl, by decide +kernel, by decide +kernel⟩
theorem ok_first_wrong_event {f : Addr} {fd : FuncData} (F : Fun K "first_wrong_event" "first_wrong_event" sfirst_wrong_event f fd) (B : Bt mg) (c_is_integer : C8.Cal P w K mg base 1 "is_integer" sp_is_integer []) (c_first_wrong_step : C8.Cal P w K mg base 3 "first_wrong_step" sp_first_wrong_step []) : FnOk P w K mg base CX0 4 f fd Pfirst_wrong_event sp_first_wrong_event := by
  refine F.ok scfirst_wrong_event (fun vs H Q E h => ?_) (fun cdv A outer s H vs Q E hr h => ?_)
  · obtain ⟨v, S, m, rfl, _⟩ := h
    rfl
  · obtain ⟨v, R, m, rfl, hv, hR, k⟩ := h
    have nd := scfirst_wrong_event.nd
    obtain ⟨a, xs, rfl, ha, t⟩ := Dq.lstE hv
    have hxl : xs.length = R.length := by rw [t.length, List.length_map]
    have hlen := hR.len
    refine ⟨_, (pss_cons (ps_set (i := 2) nd rfl (Or.inl rfl) pe_non)
    (pss_cons (ps_for PassesOwn.never rfl (pi_enum (by rfl) B.enumerate (pa_cons (pv 0) pa_nil)) (pg_tupq (n := 2) rfl (pgs_cons (pg_name (i := 3) nd rfl (Or.inl rfl)) (pgs_cons (pg_name (i := 4) nd rfl (Or.inl rfl)) pgs_nil))) (pss_cons (ps_if (PW.pt (pw_or (pt_not (pt_val (pe_callB call_isQ (by rfl) B.isinstance (by decide +kernel) (pa_cons (pv 4) (pa_cons (pe_bltn (v := .ty "tuple") (by rfl) B.tuple (by decide +kernel) rfl) pa_nil))))) (pw_or (pt_cmpR op_ne (pe_callB lenTq (by rfl) B.len (by decide +kernel) (pa_cons (pv 4) pa_nil)) pe_int (by first | exact nomark _ | rfl)) (pw_or1 (pt_not (pt_val (C8.pe_c c_is_integer hr (by decide) rfl (pa_cons (pe_ix ixtq (pv 4) pe_int (fun _ _ => rfl)) (pa_cons pe_non (pa_cons pe_non pa_nil)))))))))) (pss_one (ps_set (i := 2) nd rfl (Or.inl rfl) (pv 3))) (pss_one (ps_if (PW.pt (pw_and (pt_cmpR op_gt (pv 3) pe_int (by first | exact nomark _ | rfl)) (pw_and1 (pt_cmpR op_lt (pe_ix ixtq (pv 4) pe_int (fun _ _ => rfl)) (pe_ix ixtq (pe_ix ixlq (pv 0) (pe_op op_sub (pv 3) pe_int) (fun _ _ => rfl)) pe_int (fun _ _ => rfl)) (by first | exact nomark _ | rfl))))) (pss_one (ps_set (i := 2) nd rfl (Or.inl rfl) (pv 3))) pss_nil)))
    (pss_one (ps_if (pt_cmpR op_notN (pv 2) pe_non (by first | exact nomark _ | rfl)) (pss_one ps_break) pss_nil))))
    (pss_cons (ps_setLc (i := 5) (own := [("event", 4)]) rfl nd rfl rfl (sw_true rfl rfl rfl (by decide +kernel)) (pi_list (pe_ifExp (pt_cmpR op_isN (pv 2) pe_non (by first | exact nomark _ | rfl)) (pv 0) (pe_slice slLq (pv 0) po_none (po_some (pv 2))))) (blkOk_by (own := [("event", 4)]) (N := Nfirst_wrong_event) (sc := defScope sfirst_wrong_event) (by decide +kernel)) (fun _ _ _ _ _ => (pg_name (i := 4) nd rfl (Or.inl rfl))) (fun _ _ _ _ _ => pts_nil) (fun _ _ _ _ _ => (pe_slice slTq (pv 4) (po_some pe_int) po_none)))
    (pss_cons (ps_set (i := 6) nd rfl (Or.inl rfl) (C8.pe_c c_first_wrong_step hr (by decide) rfl (pa_cons (pv 5) (pa_cons (pv 1) pa_nil))))
    (pss_one (ps_ret (pe_ifExp (pt_cmpR op_isN (pv 6) pe_non (by first | exact nomark _ | rfl)) (pv 2) (pv 6)))))))), ?_⟩
    refine ⟨_, rfl, a, xs, rfl, sqL ha, ?_⟩
    refine for_it (walkE (K := K) (a := a) (xs := xs)) (fun i σ H' => ∃ v1 v2, σ = [some (.ref a), some (.int ((m : Nat) - 1)), some .non, v1, v2, none, none] ∧ Same H H') ⟨none, none, rfl, Same.refl H⟩ (fun i σ H' _ h => ?_) (fun i x σ H1 H2 hi h y => ?_) fun σ H1 h => ?_
    · obtain ⟨_, _, _, s1⟩ := h
      exact s1 _ _ ha
    · obtain ⟨v1, v2, rfl, s1⟩ := h
      obtain ⟨T, x1, y1, rfl, hT, rfl, e1, e2⟩ := y
      cases e1
      obtain ⟨ev, es, dv⟩ := getV_map t e2
      have s2 : Same H (upd H1 T (.tup [.int (i : Nat), y1])) := s1.trans (same_new hT)
      obtain ⟨p, rfl, hp⟩ := ev_parts dv
      have hp2 := s2 _ _ hp
      refine ⟨T, _, rfl, upd_same, rfl, _, _, rfl, _, _, rfl, rfl, ?_⟩
      refine ⟨_, rfl, _, "tuple", _, rfl, dv.of s2, by simp, nofun, nofun, true, rfl, ?_⟩
      refine ⟨_, rfl, p, _, rfl, hp2, rfl, _, rfl, ?_⟩
      refine ⟨_, rfl, p, _, _, _, rfl, rfl, hp2, atI_nat (j := 0) rfl, ev.tick, none, none, rfl, true, rfl, ?_⟩
      refine ⟨_, rfl, _, _, rfl, rfl, _, rfl, iteB (fun h0 => ?_) fun h0 => ?_⟩
      · have h0 : 0 < i := by simpa using h0
        have hi1 : i - 1 < R.length := by omega
        obtain ⟨p2, hx2, hp3⟩ := ev_at t (List.getElem?_eq_getElem hi1)
        refine ⟨_, rfl, p, _, _, _, rfl, rfl, hp2, atI_nat (j := 0) rfl, _, rfl, _, rfl, _, _, rfl, rfl, a, xs, _, V.ref p2, rfl, rfl, s2 _ _ ha, (by
          have : ((i : Int) - 1) = ((i - 1 : Nat) : Int) := by omega
          rw [this]
          exact atI_nat hx2), ?_⟩
        refine ⟨p2, _, _, _, rfl, rfl, s2 _ _ hp3, atI_nat (j := 0) rfl, _, _, rfl, rfl, _, rfl, ?_⟩
        have hle : (R[i - 1]'hi1).tick ≤ ev.tick := by
          have hi2 := (List.getElem?_eq_some_iff.mp es)
          rw [← hi2.2]
          exact List.pairwise_iff_getElem.mp hR.asc _ _ hi1 hi2.1 (by omega)
        have e3 : decide (ev.tick < (R[i - 1]'hi1).tick) = false := decide_eq_false (by omega)
        rw [e3]
        exact ⟨_, rfl, rfl, false, rfl, _, _, rfl, s2⟩
      · exact ⟨_, rfl, rfl, false, rfl, _, _, rfl, s2⟩
    · obtain ⟨v1, v2, rfl, s1⟩ := h
      have ha1 := s1 _ _ ha
      refine ⟨_, rfl, rfl, true, rfl, _, rfl, a, rfl, ⟨_, sqL ha1⟩, fun D hD => ?_⟩
      refine lcD (G := H) (G1 := H) (fun i => (R[i]?).map fun e => stpD e.stp) (walkL (K := K) (a := a) (xs := xs)) (by omega) ((Gr.refl (Same.refl H)).same s1) (fun Gi Hi g => g.keep _ _ ha1) hD (fun i x Gi Hi H' Ok No hi g y ok no => ?_) fun G' H' g1 g2 dq => ?_
      · obtain ⟨rfl, hy⟩ := y
        obtain ⟨ev, es, dv⟩ := getV_map t hy
        obtain ⟨p, rfl, hp⟩ := ev_parts dv
        have hpG : Gi p = some (.tup [.int ev.tick, .int ev.key, .str (wayS ev.dn)]) := g.ext _ _ hp
        refine ⟨rfl, _, rfl, _, rfl, p, _, rfl, g.keep _ _ (s1 _ _ hp), (by show ¬ (HT.sIx 3 0 (some 1) = 0 ∧ HT.sIx 3 3 none = 3); decide +kernel), fun q hq => ?_⟩
        refine ok _ (upd Gi q (.tup [.int ev.key, .str (wayS ev.dn)])) _ (stpD ev.stp) ((Gr.refl g.sub).fr hq) (newT (g.sub.free hq) (.two (.int _) (.str _))) ?_
        show ((R[i]?).map fun e => stpD e.stp) = _
        rw [es]
        rfl
      · have e1 : made (fun i => (R[i]?).map fun e => stpD e.stp) xs.length = (R.map Ev.stp).map stpD := by
          rw [hxl, made_map]
          simp
        rw [e1] at dq
        refine ⟨_, rfl, _, rfl, V.ref D, R.map Ev.stp, _, rfl, dq.of g2.sub, ?_, hR.alt, by simpa using hlen, fun H3 s3 => ?_⟩
        · intro s hs
          obtain ⟨e, he, rfl⟩ := List.mem_map.mp hs
          have := hR.keys e he
          show 0 ≤ e.key ∧ e.key ≤ (m : Int) - 1
          omega
        · exact ⟨_, rfl, rfl, true, rfl, _, rfl, k _ ((s1.trans g2.keep).trans s3)⟩
abbrev sis_events : Stmt := top 23
abbrev Nis_events : List PySem.Str := ["value"]
abbrev Pis_events : List PySem.Str := ["value"]
theorem scis_events : FnScope Nis_events Pis_events (defScope sis_events) := ⟨rfl, rfl, rfl, by decide +kernel, rfl, by decide +kernel, by decide +kernel⟩
theorem ok_is_events {f : Addr} {fd : FuncData} (F : Fun K "is_events" "is_events" sis_events f fd) (B : Bt mg) (T : Tc mg K) : FnOk P w K mg base CX0 1 f fd Pis_events sp_is_events := by
  refine F.ok scis_events (fun vs H Q E h => ?_) (fun cdv A outer s H vs Q E hr h => ?_)
  · obtain ⟨v, S, rfl, _⟩ := h
    rfl
  · obtain ⟨v, R, rfl, hv, hl, k⟩ := h
    have nd := scis_events.nd
    obtain ⟨a, xs, rfl, ha, t⟩ := Dq.lstE hv
    refine ⟨_, (pss_one (ps_ret (pe_and (pe_callB call_isQ (by rfl) B.isinstance (by decide +kernel) (pa_cons (pv 0) (pa_cons (pe_bltn (v := .ty "list") (by rfl) B.list (by decide +kernel) rfl) pa_nil))) (pe_one (pe_cmpR op_le (pe_callB lenLq (by rfl) B.len (by decide +kernel) (pa_cons (pv 0) pa_nil)) (C8.pe_gc rfl T.MOST_EVENTS_values) (by first | exact nomark _ | rfl)))))), ?_⟩
    refine ⟨_, rfl, _, "list", _, rfl, hv, by simp, nofun, nofun, true, rfl, ?_⟩
    refine ⟨_, rfl, a, xs, rfl, ha, _, _, rfl, rfl, ?_⟩
    have e : decide ((xs.length : Int) ≤ 400) = true := decide_eq_true (by rw [t.length, List.length_map]; omega)
    show Q (.bl (decide ((xs.length : Int) ≤ 400))) H
    rw [e]
    exact k
abbrev srequire_record_with : Stmt := top 24
abbrev Nrequire_record_with : List PySem.Str := ["many", "record", "wrong"]
abbrev Prequire_record_with : List PySem.Str := ["many", "record"]
theorem screquire_record_with : FnScope Nrequire_record_with Prequire_record_with (defScope srequire_record_with) := ⟨rfl, rfl, rfl, by decide +kernel, rfl, by decide +kernel, by decide +kernel⟩
theorem ok_require_record_with {f : Addr} {fd : FuncData} (F : Fun K "require_record_with" "require_record_with" srequire_record_with f fd) (B : Bt mg) (c_is_events : C8.Cal P w K mg base 1 "is_events" sp_is_events []) (c_first_wrong_event : C8.Cal P w K mg base 4 "first_wrong_event" sp_first_wrong_event []) : FnOk P w K mg base CX0 5 f fd Prequire_record_with sp_require_record_with := by
  refine F.ok screquire_record_with (fun vs H Q E h => ?_) (fun cdv A outer s H vs Q E hr h => ?_)
  · obtain ⟨v, S, m, rfl, _⟩ := h
    rfl
  · obtain ⟨v, R, m, rfl, hv, hR, k⟩ := h
    have nd := screquire_record_with.nd
    refine ⟨_, (pss_cons (ps_if (pt_not (pt_val (C8.pe_c c_is_events hr (by decide) rfl (pa_cons (pv 1) pa_nil)))) pss_never pss_nil)
    (pss_cons (ps_set (i := 2) nd rfl (Or.inl rfl) (C8.pe_c c_first_wrong_event hr (by decide) rfl (pa_cons (pv 1) (pa_cons (pv 0) pa_nil))))
    (pss_one (ps_if (pt_cmpR op_notN (pv 2) pe_non (by first | exact nomark _ | rfl)) pss_never pss_nil)))), ?_⟩
    refine ⟨_, rfl, v, R, rfl, hv, hR.len, true, rfl, ?_⟩
    refine ⟨_, rfl, _, rfl, v, R, m, rfl, hv, hR, fun H1 s1 => ?_⟩
    exact ⟨_, rfl, rfl, false, rfl, k _ s1⟩
abbrev srequire_record : Stmt := top 25
abbrev Nrequire_record : List PySem.Str := ["layout", "record"]
abbrev Prequire_record : List PySem.Str := ["layout", "record"]
theorem screquire_record : FnScope Nrequire_record Prequire_record (defScope srequire_record) := ⟨rfl, rfl, rfl, by decide +kernel, rfl, by decide +kernel, by decide +kernel⟩
theorem ok_require_record {f : Addr} {fd : FuncData} (F : Fun K "require_record" "require_record" srequire_record f fd) (B : Bt mg) (c_require_record_with : C8.Cal P w K mg base 5 "require_record_with" sp_require_record_with []) : FnOk P w K mg base CX0 6 f fd Prequire_record sp_require_record := by
  refine F.ok screquire_record (fun vs H Q E h => ?_) (fun cdv A outer s H vs Q E hr h => ?_)
  · obtain ⟨v, u, L, R, rfl, _⟩ := h
    rfl
  · obtain ⟨v, u, L, R, rfl, hv, hL, hu, hR, k⟩ := h
    have nd := screquire_record.nd
    obtain ⟨a, xs, rfl, ha, t⟩ := Dq.lstE hv
    obtain ⟨r0, L', rfl⟩ : ∃ r0 L', L = r0 :: L' := by
      cases L with
      | nil => have := hL.h1; simp at this
      | cons r L' => exact ⟨r, L', rfl⟩
    obtain ⟨v0, xs', rfl, hv0, t0⟩ := t.consE
    obtain ⟨p0, as0, rfl, hp0, ta0⟩ := hv0.lstE
    refine ⟨_, (pss_one (ps_expr (C8.pe_c c_require_record_with hr (by decide) rfl (pa_cons (pe_op op_sub (pe_callB lenLq (by rfl) B.len (by decide +kernel) (pa_cons (pe_ix ixlq (pv 0) pe_int (fun _ _ => rfl)) pa_nil)) pe_int) (pa_cons (pv 1) pa_nil))))), ?_⟩
    refine ⟨_, rfl, a, _, _, _, rfl, rfl, ha, atI_nat (j := 0) rfl, p0, as0, rfl, hp0, _, _, rfl, rfl, _, rfl, ?_⟩
    refine ⟨u, R, r0.length, ?_, hu, hR, fun H1 s1 => k _ s1⟩
    rw [ta0.length, List.length_map]
    rfl
end
end HT7
end partW4
section partW5
set_option Elab.async false
set_option linter.all false
set_option maxRecDepth 100000
namespace HT7
open PySem PySem.Spec PyProof.Rows L2 HT5 HT6
/-! ### the player -/
structure PlC (K : PySem.W.Frag) (C : Addr) : Prop where
  cl : Cls K C
  nL : NoAttr K C "kept_layout"
  nK : NoAttr K C "kept_locked"
  nW : NoAttr K C "kept_waiting"
  nB : NoAttr K C "kept_bound"
def plF (la dl : Addr) (w : V) (db : Addr) : List (PySem.Str × V) := [("kept_layout", .ref la), ("kept_locked", .ref dl), ("kept_waiting", w), ("kept_bound", .ref db)]
theorem put_wait {la dl db : Addr} {w y : V} : putF "kept_waiting" y (plF la dl w db) = plF la dl y db := by
  simp only [plF, putF]
  rw [if_neg (by decide +kernel), if_neg (by decide +kernel), if_pos trivial]
theorem put_locked {la dl db e : Addr} {w : V} : putF "kept_locked" (.ref e) (plF la dl w db) = plF la e w db := by
  simp only [plF, putF]
  rw [if_neg (by decide +kernel), if_pos trivial]
theorem put_bound {la dl db e : Addr} {w : V} : putF "kept_bound" (.ref e) (plF la dl w db) = plF la dl w e := by
  simp only [plF, putF]
  rw [if_neg (by decide +kernel), if_neg (by decide +kernel), if_neg (by decide +kernel), if_pos trivial]
def lkK (l : List Int) : List (Key × V) := l.map fun j => (Sum.inl j, V.bl true)
/-- what is bound: key by key -/
inductive KB (G : Hp) : List (Key × V) → List (Int × Wt) → Prop
  | nil : KB G [] []
  | cons {k : Int} {v : V} {x : Wt} {r : List (Key × V)} {b : List (Int × Wt)} : Dq G v x.d → KB G r b → KB G ((Sum.inl k, v) :: r) ((k, x) :: b)
theorem KB.mono {G G' : Hp} (e : Same G G') : ∀ {r : List (Key × V)} {b : List (Int × Wt)}, KB G r b → KB G' r b
  | _, _, .nil => .nil
  | _, _, .cons h t => .cons (h.of e) (KB.mono e t)
theorem KB.length {G : Hp} : ∀ {r : List (Key × V)} {b : List (Int × Wt)}, KB G r b → r.length = b.length
  | _, _, .nil => rfl
  | _, _, .cons _ t => congrArg (· + 1) (KB.length t)
theorem KB.val {G : Hp} {k : Int} : ∀ {r : List (Key × V)} {b : List (Int × Wt)}, KB G r b → (b.lookup k = none ∧ valV r (Sum.inl k) = none) ∨ ∃ x v, b.lookup k = some x ∧ valV r (Sum.inl k) = some v ∧ Dq G v x.d
  | _, _, .nil => .inl ⟨rfl, rfl⟩
  | _, _, .cons (k := k1) (v := v) (x := x) (r := r) (b := b) h t => by
    by_cases e : k1 = k
    · subst e
      exact .inr ⟨x, v, by simp, valV_pos rfl, h⟩
    · rcases KB.val (k := k) t with ⟨h1, h2⟩ | ⟨x', v', h1, h2, h3⟩
      · refine .inl ⟨?_, ?_⟩
        · rw [List.lookup_cons, beq_false_of_ne (fun z => e z.symm)]; exact h1
        · rw [valV_neg (fun z => e (Sum.inl.inj z))]; exact h2
      · refine .inr ⟨x', v', ?_, ?_, h3⟩
        · rw [List.lookup_cons, beq_false_of_ne (fun z => e z.symm)]; exact h1
        · rw [valV_neg (fun z => e (Sum.inl.inj z))]; exact h2
theorem KB.drop {G : Hp} {k : Int} : ∀ {r : List (Key × V)} {b : List (Int × Wt)}, KB G r b → KB G (dropK r (Sum.inl k)) (b.filter (·.1 ≠ k))
  | _, _, .nil => .nil
  | _, _, .cons (k := k1) (v := v) (x := x) (r := r) (b := b) h t => by
    by_cases e : k1 = k
    · subst e
      rw [dropK_pos rfl, List.filter_cons_of_neg (by simp)]
      exact KB.drop t
    · rw [dropK_neg (fun z => e (Sum.inl.inj z)), List.filter_cons_of_pos (by simpa using e)]
      exact .cons h (KB.drop t)
theorem putK_pos {p : Key × V} {r : List (Key × V)} {k : Key} {v : V} (nd : ((p :: r).map (·.1)).Nodup) (e : p.1 = k) : putK (p :: r) k v = (k, v) :: r := by
  obtain ⟨a, x⟩ := p
  subst e
  unfold putK
  rw [List.any_cons]
  simp only [decide_true, Bool.true_or, if_true, List.map_cons]
  congr 1
  have h : a ∉ r.map (·.1) := (List.nodup_cons.mp (show (a :: r.map (·.1)).Nodup from nd)).1
  refine (List.map_congr_left fun q hq => ?_).trans (List.map_id r)
  rw [if_neg]
  · rfl
  · intro z
    exact h (List.mem_map.mpr ⟨q, hq, z⟩)
theorem putK_neg {p : Key × V} {r : List (Key × V)} {k : Key} {v : V} (e : ¬ p.1 = k) : putK (p :: r) k v = p :: putK r k v := by
  unfold putK
  rw [List.any_cons, decide_eq_false e, Bool.false_or]
  cases h : (r.any fun kv => decide (kv.1 = k)) with
  | true => simp only [if_true, List.map_cons, e, if_false]
  | false => simp
theorem KB.keys {G : Hp} : ∀ {r : List (Key × V)} {b : List (Int × Wt)}, KB G r b → r.map (·.1) = b.map fun q => (Sum.inl q.1 : Key)
  | _, _, .nil => rfl
  | _, _, .cons _ t => by rw [List.map_cons, List.map_cons, KB.keys t]
theorem KB.put {G : Hp} {k : Int} {v : V} {x : Wt} (hx : Dq G v x.d) : ∀ {r : List (Key × V)} {b : List (Int × Wt)}, KB G r b → (r.map (·.1)).Nodup → KB G (putK r (Sum.inl k) v) (putB k x b)
  | _, _, .nil, _ => .cons hx .nil
  | _, _, .cons (k := k1) (v := v1) (x := x1) (r := r) (b := b) h t, nd => by
    by_cases e : k1 = k
    · subst e
      rw [putK_pos nd rfl]
      show KB G _ (if k1 = k1 then _ else _)
      rw [if_pos rfl]
      exact .cons hx t
    · rw [putK_neg (fun z => e (Sum.inl.inj z))]
      show KB G _ (if k1 = k then _ else _)
      rw [if_neg e]
      exact .cons h (KB.put hx t (List.nodup_cons.mp (show (((Sum.inl k1 : Key), v1).1 :: r.map (·.1)).Nodup from nd)).2)
theorem putB_keys (k : Int) (x : Wt) (b : List (Int × Wt)) : (b.map (·.1)).Nodup → ((putB k x b).map (·.1)).Nodup ∧ ∀ j, j ∈ (putB k x b).map (·.1) → j = k ∨ j ∈ b.map (·.1) := by
  induction b with
  | nil => intro _; exact ⟨by simp [putB], fun j hj => .inl (by simpa [putB] using hj)⟩
  | cons q r ih =>
    intro nd
    obtain ⟨h1, h2⟩ := List.nodup_cons.mp (show (q.1 :: r.map (·.1)).Nodup from nd)
    obtain ⟨i1, i2⟩ := ih h2
    by_cases e : q.1 = k
    · have e2 : putB k x (q :: r) = (k, x) :: r := by simp [putB, e]
      rw [e2]
      refine ⟨?_, fun j hj => ?_⟩
      · rw [List.map_cons]
        exact List.nodup_cons.mpr ⟨by rw [← e]; exact h1, h2⟩
      · rcases List.mem_cons.mp hj with z | z
        · exact .inl z
        · exact .inr (List.mem_cons_of_mem _ z)
    · have e2 : putB k x (q :: r) = q :: putB k x r := by simp [putB, e]
      rw [e2]
      refine ⟨?_, fun j hj => ?_⟩
      · rw [List.map_cons]
        refine List.nodup_cons.mpr ⟨fun z => ?_, i1⟩
        rcases i2 _ z with z | z
        · exact e z
        · exact h1 z
      · rcases List.mem_cons.mp hj with z | z
        · exact .inr (by rw [z]; exact List.mem_cons_self)
        · rcases i2 _ z with z | z
          · exact .inl z
          · exact .inr (List.mem_cons_of_mem _ z)
/-- the player at p as it stands: its dicts at dl, db -/
structure PlR (C : Addr) (H : Hp) (p dl db : Addr) (L : Lay) (st : Pl) : Prop where
  ob : ∃ la dx, H p = some (.ins C dx (plF la dl (oV st.wait) db)) ∧ Dq H (.ref la) (layD L)
  lk : H dl = some (.dK (lkK st.locked))
  bd : ∃ kb, H db = some (.dK kb) ∧ KB H kb st.bound
/-- .. its own parts unknown to the ghost, all else known to it -/
structure PlAt (C : Addr) (G H : Hp) (p dl db : Addr) (L : Lay) (st : Pl) : Prop where
  ob : ∃ la dx, H p = some (.ins C dx (plF la dl (oV st.wait) db)) ∧ Dq G (.ref la) (layD L)
  lk : H dl = some (.dK (lkK st.locked))
  bd : ∃ kb, H db = some (.dK kb) ∧ KB G kb st.bound
  nd : (st.bound.map (·.1)).Nodup
  ne : dl ≠ db
  gp : G p = none
  gl : G dl = none
  gb : G db = none
theorem PlAt.r {C : Addr} {G H : Hp} {p dl db : Addr} {L : Lay} {st : Pl} (h : PlAt C G H p dl db L st) (s : Same G H) : PlR C H p dl db L st := by
  obtain ⟨la, dx, h1, h2⟩ := h.ob
  obtain ⟨kb, h3, h4⟩ := h.bd
  exact ⟨⟨la, dx, h1, h2.of s⟩, h.lk, kb, h3, h4.mono s⟩
theorem PlR.mono {C : Addr} {H H' : Hp} {p dl db : Addr} {L : Lay} {st : Pl} (h : PlR C H p dl db L st) (s : Same H H') : PlR C H' p dl db L st := by
  obtain ⟨la, dx, h1, h2⟩ := h.ob
  obtain ⟨kb, h3, h4⟩ := h.bd
  exact ⟨⟨la, dx, s _ _ h1, h2.of s⟩, s _ _ h.lk, kb, s _ _ h3, h4.mono s⟩
/-- the ghost grows, the own parts stay -/
theorem PlAt.keep {C : Addr} {G H G' H' : Hp} {p dl db : Addr} {L : Lay} {st : Pl} (h : PlAt C G H p dl db L st) (e : Same G G') (k : ∀ a o, (a = p ∨ a = dl ∨ a = db) → H a = some o → H' a = some o) (n : ∀ a, (a = p ∨ a = dl ∨ a = db) → G' a = none) : PlAt C G' H' p dl db L st := by
  obtain ⟨la, dx, h1, h2⟩ := h.ob
  obtain ⟨kb, h3, h4⟩ := h.bd
  exact ⟨⟨la, dx, k _ _ (.inl rfl) h1, h2.of e⟩, k _ _ (.inr (.inl rfl)) h.lk, ⟨kb, k _ _ (.inr (.inr rfl)) h3, h4.mono e⟩, h.nd, h.ne, n _ (.inl rfl), n _ (.inr (.inl rfl)), n _ (.inr (.inr rfl))⟩
theorem PlAt.none_of {C : Addr} {G H : Hp} {p dl db : Addr} {L : Lay} {st : Pl} (h : PlAt C G H p dl db L st) {a : Addr} (e : a = p ∨ a = dl ∨ a = db) : G a = none := by
  rcases e with rfl | rfl | rfl
  · exact h.gp
  · exact h.gl
  · exact h.gb
theorem PlAt.some_of {C : Addr} {G H : Hp} {p dl db : Addr} {L : Lay} {st : Pl} (h : PlAt C G H p dl db L st) {a : Addr} (e : a = p ∨ a = dl ∨ a = db) : ∃ o, H a = some o := by
  rcases e with rfl | rfl | rfl
  · obtain ⟨_, _, z, _⟩ := h.ob
    exact ⟨_, z⟩
  · exact ⟨_, h.lk⟩
  · obtain ⟨_, z, _⟩ := h.bd
    exact ⟨_, z⟩
theorem PlAt.gr {C : Addr} {G H G' H' : Hp} {p dl db : Addr} {L : Lay} {st : Pl} (h : PlAt C G H p dl db L st) (g : Gr G H G' H') : PlAt C G' H' p dl db L st :=
  h.keep g.ext (fun a o _ e => g.keep a o e) fun a e => by
    obtain ⟨o, ho⟩ := h.some_of e
    exact g.out ho (h.none_of e)
/-- a step that changes only what P names -/
structure GrP (P : Addr → Prop) (G H G' H' : Hp) : Prop where
  sub : Same G' H'
  ext : Same G G'
  keep : ∀ a o, ¬ P a → H a = some o → H' a = some o
  new : ∀ a, G' a ≠ none → G a = none → H a = none
  there : ∀ a, H a ≠ none → H' a ≠ none
section
variable {P : Addr → Prop} {G H G1 H1 G2 H2 : Hp} {D : Addr} {o : HO}
theorem GrP.of (g : Gr G H G1 H1) : GrP P G H G1 H1 := ⟨g.sub, g.ext, fun a o _ e => g.keep a o e, g.new, fun a h => by
  cases e : H a with
  | none => exact absurd e h
  | some x => rw [g.keep a x e]; exact fun z => nomatch z⟩
theorem GrP.trans (g : GrP P G H G1 H1) (f : GrP P G1 H1 G2 H2) : GrP P G H G2 H2 := ⟨f.sub, g.ext.trans f.ext, fun a o n e => f.keep a o n (g.keep a o n e), fun a h2 h0 => by
  by_cases e : G1 a = none
  · have z := f.new a h2 e
    cases q : H a with
    | none => rfl
    | some x => exact absurd z (g.there a (by rw [q]; exact fun z => nomatch z))
  · exact g.new a e h0, fun a h => f.there a (g.there a h)⟩
theorem GrP.set (g : GrP P G H G1 H1) (hP : P D) (h1 : G1 D = none) (h2 : H1 D ≠ none) : GrP P G H G1 (upd H1 D o) := ⟨fun b x e => by
    rw [upd_ne (ne_of_none e h1)]; exact g.sub b x e, g.ext, fun a x n e => by
    rw [upd_ne (fun z => n (by rw [z]; exact hP))]; exact g.keep a x n e, g.new, fun a h => by
    by_cases e : a = D
    · rw [e, upd_same]; exact fun z => nomatch z
    · rw [upd_ne e]; exact g.there a h⟩
/-- as seen from ahead, where the changed things were not yet there -/
theorem Gr.stepP {G0 H0 : Hp} (g : Gr G0 H0 G H) (f : GrP P G H G1 H1) (hP : ∀ a, P a → H0 a = none) : Gr G0 H0 G1 H1 := ⟨f.sub, g.ext.trans f.ext, fun a o e => f.keep a o (fun z => by rw [hP a z] at e; cases e) (g.keep a o e), fun a h2 h0 => by
  by_cases e : G a = none
  · exact g.keep.free (f.new a h2 e)
  · exact g.new a e h0⟩
theorem GrP.out (g : GrP P G H G1 H1) (h : H D = some o) (n : G D = none) : G1 D = none := by
  cases e : G1 D with
  | none => rfl
  | some x =>
    have z := g.new D (by rw [e]; simp) n
    rw [h] at z; cases z
theorem GrP.wide {P' : Addr → Prop} (g : GrP P G H G1 H1) (h : ∀ a, P a → P' a) : GrP P' G H G1 H1 := ⟨g.sub, g.ext, fun a o n e => g.keep a o (fun z => n (h a z)) e, g.new, g.there⟩
end
def own3 (p dl db : Addr) : Addr → Prop := fun a => a = p ∨ a = dl ∨ a = db
def dV : Option Bool → V
  | none => .non
  | some b => .str (tapS b)
def isTap (d : Option Bool) : Bool := d == some true
def sp_carried_out : Sp := fun vs H Q _ => ∃ (G : Hp) (v : V) (a : Ac) (d : Option Bool), vs = [v, dV d] ∧ Same G H ∧ Dq G v a.d ∧ (a.isDual = true → d ≠ none) ∧ ∀ v' G' H', Gr G H G' H' → Dq G' v' (mCarried a (isTap d)).d → Q v' H'
def sp_Player_init (C : Addr) : Sp := fun vs H Q _ => ∃ (G : Hp) (p dx la : Addr) (L : Lay), vs = [.ref p, .ref la] ∧ Same G H ∧ H p = some (.ins C dx []) ∧ G p = none ∧ Dq G (.ref la) (layD L) ∧ ∀ H' dl db, (∀ a o, a ≠ p → H a = some o → H' a = some o) → H dl = none → H db = none → PlAt C G H' p dl db L pl0 → Q .non H'
def sp_Player_copy (C : Addr) : Sp := fun vs H Q _ => ∃ (G : Hp) (p dl db : Addr) (L : Lay) (st : Pl), vs = [.ref p] ∧ Same G H ∧ PlAt C G H p dl db L st ∧ ∀ H' p' dl' db', Same H H' → H p' = none → H dl' = none → H db' = none → PlAt C G H' p' dl' db' L st → Q (.ref p') H'
def sp_Player_is_on (C : Addr) : Sp := fun vs H Q _ => ∃ (p dl db : Addr) (L : Lay) (st : Pl) (j : Int), vs = [.ref p, .int j] ∧ PlR C H p dl db L st ∧ LayOk L ∧ st.bound.length ≤ 500 ∧ (∀ b ∈ st.bound, AcOk 0 L.length (.w b.2)) ∧ ∀ H', Same H H' → Q (.bl (st.on j)) H'
def sp_Player_layers_here (C : Addr) : Sp := fun vs H Q _ => ∃ (p dl db : Addr) (L : Lay) (st : Pl), vs = [.ref p] ∧ PlR C H p dl db L st ∧ LayOk L ∧ st.bound.length ≤ 500 ∧ (∀ b ∈ st.bound, AcOk 0 L.length (.w b.2)) ∧ ∀ H' q, Same H H' → H q = none → H' q = some (.lst ((mLayers L st).map fun l => V.int (l : Nat))) → Q (.ref q) H'
def BdOk (L : Lay) (st : Pl) : Prop := ∀ b ∈ st.bound, AcOk 0 L.length (.w b.2)
def _root_.HT6.Pl.size (st : Pl) : Nat := st.locked.length + st.bound.length
def sp_Player_look (C : Addr) : Sp := fun vs H Q _ => ∃ (G : Hp) (p dl db : Addr) (L : Lay) (st : Pl) (k : Int), vs = [.ref p, .int k] ∧ Same G H ∧ PlAt C G H p dl db L st ∧ LayOk L ∧ BdOk L st ∧ st.size ≤ 500 ∧ (0 ≤ k ∧ k < mWide L) ∧
  ∀ v G' H', Gr G H G' H' → Dq G' v (.tuple [.int ((mLook L st k).1 : Nat), (mLook L st k).2.d]) → Q v H'
def sp_Player_down (C : Addr) : Sp := fun vs H Q _ => ∃ (G : Hp) (p dl db : Addr) (L : Lay) (st : Pl) (k : Int) (d : Option Bool), vs = [.ref p, .int k, dV d] ∧ Same G H ∧ PlAt C G H p dl db L st ∧ LayOk L ∧ BdOk L st ∧ st.size ≤ 500 ∧ (0 ≤ k ∧ k < mWide L) ∧
  ((mLook L st k).2.isDual = true → d ≠ none) ∧ ∀ v G' H', GrP (own3 p dl db) G H G' H' → PlAt C G' H' p dl db L (mDown L st k (isTap d)).2 → Dq G' v (outD (mDown L st k (isTap d)).1) → Q v H'
def sp_Player_up (C : Addr) : Sp := fun vs H Q _ => ∃ (G : Hp) (p dl db : Addr) (L : Lay) (st : Pl) (k : Int), vs = [.ref p, .int k] ∧ Same G H ∧ PlAt C G H p dl db L st ∧
  ∀ v G' H', GrP (own3 p dl db) G H G' H' → PlAt C G' H' p dl db L (mUp st k).2 → Dq G' v (outD (mUp st k).1) → Q v H'
end HT7
end partW5
section partW6
set_option Elab.async false
set_option linter.all false
set_option maxRecDepth 100000
namespace HT7
open PySem PySem.Spec PyProof.Rows L2 HT5 HT6
mutual
theorem dq_lock {H : Hp} {db : Addr} {kb : List (Key × V)} {o : HO} (hb : H db = some (.dK kb)) : ∀ {d : PyData} {v : V}, Dq H v d → Dq (upd H db o) v d
  | _, _, .non => .non
  | _, _, .bl b => .bl b
  | _, _, .int i => .int i
  | _, _, .str x => .str x
  | _, _, .lst h t => .lst (by rw [upd_ne (ne_of h hb (by intro z; cases z))]; exact h) (dqs_lock hb t)
  | _, _, .tup h t => .tup (by rw [upd_ne (ne_of h hb (by intro z; cases z))]; exact h) (dqs_lock hb t)
theorem dqs_lock {H : Hp} {db : Addr} {kb : List (Key × V)} {o : HO} (hb : H db = some (.dK kb)) : ∀ {ds : List PyData} {vs : List V}, DqAll H vs ds → DqAll (upd H db o) vs ds
  | _, _, .nil => .nil
  | _, _, .cons h t => .cons (dq_lock hb h) (dqs_lock hb t)
end
theorem lk_layout {la dl db : Addr} {w : V} : (plF la dl w db).lookup ("kept_layout" : PySem.Str) = some (.ref la) := rfl
theorem lk_locked {la dl db : Addr} {w : V} : (plF la dl w db).lookup ("kept_locked" : PySem.Str) = some (.ref dl) := by
  have z : putF "kept_locked" (.ref dl) (plF la dl w db) = plF la dl w db := put_locked
  rw [← z, lookup_putF, if_pos rfl]
theorem lk_waiting {la dl db : Addr} {w : V} : (plF la dl w db).lookup ("kept_waiting" : PySem.Str) = some w := by
  have z : putF "kept_waiting" w (plF la dl w db) = plF la dl w db := put_wait
  rw [← z, lookup_putF, if_pos rfl]
theorem lk_bound {la dl db : Addr} {w : V} : (plF la dl w db).lookup ("kept_bound" : PySem.Str) = some (.ref db) := by
  have z : putF "kept_bound" (.ref db) (plF la dl w db) = plF la dl w db := put_bound
  rw [← z, lookup_putF, if_pos rfl]
theorem lk_other {la dl db : Addr} {w : V} {f : PySem.Str} (h : (decide (f = "kept_layout") || decide (f = "kept_locked") || decide (f = "kept_waiting") || decide (f = "kept_bound")) = false) : (plF la dl w db).lookup f = none := by
  simp only [Bool.or_eq_false_iff, decide_eq_false_iff_not] at h
  obtain ⟨⟨⟨h1, h2⟩, h3⟩, h4⟩ := h
  simp only [plF, List.lookup_cons, List.lookup_nil, beq_false_of_ne h1, beq_false_of_ne h2, beq_false_of_ne h3, beq_false_of_ne h4]
theorem valV_lk (l : List Int) (j : Int) : (valV (lkK l) (Sum.inl j)).isSome = l.contains j := by
  induction l with
  | nil => rfl
  | cons a r ih =>
    show (valV ((Sum.inl a, V.bl true) :: lkK r) (Sum.inl j)).isSome = _
    by_cases e : a = j
    · subst e
      rw [valV_pos rfl]
      simp
    · rw [valV_neg (fun z => e (Sum.inl.inj z)), ih]
      have : ¬ j = a := fun z => e z.symm
      simp [this]
theorem fineWt {n : Nat} {x : Wt} (h : AcOk 0 n (.w x)) : Fine 1 x.d := by
  intro y hy
  have e : y = .str x.word ∨ y = x.val := by simpa [Wt.d] using hy
  rcases e with rfl | rfl
  · show PyData.strOk x.word = true
    cases x <;> (show PyData.strOk (PySem.Str.ofString _) = true; decide +kernel)
  · cases x with
    | code c =>
      show PyData.strOk c = true
      have h' : CodeOk c := h
      unfold PyData.strOk
      rw [Array.all_eq_true_iff_forall_mem]
      intro s hs
      have hm := h'.2.2 s (Array.mem_toList_iff.mpr hs)
      have hall : ∀ s ∈ mSigns, s < 0x110000 := by decide +kernel
      simpa using hall s hm
    | lay j => trivial
    | lock j => trivial
    | once j => trivial
theorem fineAc {l n : Nat} {a : Ac} (h : AcOk l n a) : Fine 2 a.d := by
  cases a with
  | non => show PyData.strOk _ = true; decide +kernel
  | thr => show PyData.strOk _ = true; decide +kernel
  | w x =>
    refine Fine.up (fineWt (n := n) (x := x) ?_)
    cases x <;> exact h
  | dual c hh t r =>
    obtain ⟨x1, x2, _, _, x5⟩ := h
    intro y hy
    have e : y = .str "dual" ∨ y = .str c ∨ y = hh.d ∨ y = .int t ∨ y = .str r := by simpa [Ac.d] using hy
    rcases e with rfl | rfl | rfl | rfl | rfl
    · show PyData.strOk _ = true; decide +kernel
    · exact (fineWt (n := n) (x := .code c) x1) (.str c) (by simp [Wt.val])
    · refine fineWt (n := n) ?_
      cases hh with
      | code c => exact x2
      | lay j => exact x2
      | lock j => exact x2.elim
      | once j => exact x2.elim
    · trivial
    · show PyData.strOk r = true
      simp only [mRules, List.mem_cons, List.not_mem_nil, or_false] at x5
      rcases x5 with rfl | rfl | rfl <;> decide +kernel
section
variable {P : Program} {w : World} {K : PySem.W.Frag} {mg : Str → Option Value} {base : Heap}
abbrev scarried_out : Stmt := top 30
abbrev Ncarried_out : List PySem.Str := ["action", "decide"]
abbrev Pcarried_out : List PySem.Str := ["action", "decide"]
theorem sccarried_out : FnScope Ncarried_out Pcarried_out (defScope scarried_out) := ⟨rfl, rfl, rfl, by decide +kernel, rfl, by decide +kernel, by decide +kernel⟩
theorem ok_carried_out {f : Addr} {fd : FuncData} (F : Fun K "carried_out" "carried_out" scarried_out f fd) (B : Bt mg) (c_is_dual : C8.Cal P w K mg base 1 "is_dual" sp_is_dual []) : FnOk P w K mg base CX0 2 f fd Pcarried_out sp_carried_out := by
  refine F.ok sccarried_out (fun vs H Q E h => ?_) (fun cdv A outer s H vs Q E hr h => ?_)
  · obtain ⟨G, v, a, d, rfl, _⟩ := h
    rfl
  · obtain ⟨G, v, a, d, rfl, sG, hv, hd, k⟩ := h
    have nd := sccarried_out.nd
    refine ⟨_, (pss_cons (ps_if (pt_not (pt_val (C8.pe_c c_is_dual hr (by decide) rfl (pa_cons (pv 0) pa_nil)))) (pss_one (ps_ret (pv 0))) pss_nil)
    (pss_one (ps_ret (pe_ifExp (pt_cmpR op_eq (pv 1) pe_str (by first | exact nomark _ | rfl)) (pe_tup (pa_cons pe_str (pa_cons (pe_ix ixtq (pv 0) pe_int (fun _ _ => rfl)) pa_nil))) (pe_ix ixtq (pv 0) pe_int (fun _ _ => rfl)))))), ?_⟩
    refine ⟨_, rfl, v, a, rfl, hv.of sG, _, rfl, ?_⟩
    cases a with
    | non => exact ⟨_, rfl, k _ G H (Gr.refl sG) hv⟩
    | thr => exact ⟨_, rfl, k _ G H (Gr.refl sG) hv⟩
    | w x => exact ⟨_, rfl, k _ G H (Gr.refl sG) hv⟩
    | dual c hh t r =>
      obtain ⟨p, xs, rfl, hp, tt⟩ := (show Dq G v (.tuple [.str "dual", .str c, hh.d, .int t, .str r]) from hv).tupE
      obtain ⟨v1, v2, v3, v4, v5, rfl, h1, h2, h3, h4, h5⟩ := tt.fiveE
      obtain rfl := h2.strE
      have hp' := sG _ _ hp
      cases d with
      | none => exact absurd rfl (hd rfl)
      | some b =>
        cases b with
        | true =>
          refine ⟨_, rfl, rfl, true, rfl, _, rfl, p, _, _, _, rfl, rfl, hp', atI_nat (j := 1) rfl, by show 2 ≤ sizeLine; decide, fun q hq => ?_⟩
          exact k _ (upd G q (.tup [.str "code", .str c])) _ ((Gr.refl sG).fr hq) (newT (sG.free hq) (.two (.str _) (.str _)))
        | false =>
          exact ⟨_, rfl, rfl, false, rfl, _, rfl, p, _, _, _, rfl, rfl, hp', atI_nat (j := 2) rfl, k _ G H (Gr.refl sG) h3⟩
abbrev sPlayer_init : Stmt := inClass (top 31) 0
abbrev NPlayer_init : List PySem.Str := ["self", "layout"]
abbrev PPlayer_init : List PySem.Str := ["self", "layout"]
theorem scPlayer_init : FnScope NPlayer_init PPlayer_init (defScope sPlayer_init) := ⟨rfl, rfl, rfl, by decide +kernel, rfl, by decide +kernel, by decide +kernel⟩
theorem ok_Player_init {C f : Addr} {fd : FuncData} (F : Fun K "__init__" "Player.__init__" sPlayer_init f fd) (T : PlC K C) : FnOk P w K mg base CX0 1 f fd PPlayer_init (sp_Player_init C) := by
  refine F.ok scPlayer_init (fun vs H Q E h => ?_) (fun cdv A outer s H vs Q E hr h => ?_)
  · obtain ⟨G, p, dx, la, L, rfl, _⟩ := h
    rfl
  · obtain ⟨G, p, dx, la, L, rfl, sG, hp, gp, hla, k⟩ := h
    have nd := scPlayer_init.nd
    refine ⟨_, (pss_cons (ps_fld (pv 0) (pv 1) rfl)
    (pss_cons (ps_fld (pv 0) pe_dnewK rfl)
    (pss_cons (ps_fld (pv 0) pe_non rfl)
    (pss_one (ps_fld (pv 0) pe_dnewK rfl))))), ?_⟩
    refine ⟨_, rfl, _, rfl, p, C, dx, [], rfl, hp, T.cl, T.nL, (by show 0 < 1000; decide), fun dl hdl => ?_⟩
    have nl : p ≠ dl := ne_of_none upd_same hdl
    have hdl0 : H dl = none := by rw [upd_ne (fun z => nl z.symm)] at hdl; exact hdl
    refine ⟨_, rfl, p, C, dx, _, rfl, by rw [upd_ne nl]; exact upd_same, T.cl, T.nK, (by show 1 < 1000; decide), ?_⟩
    refine ⟨_, rfl, p, C, dx, _, rfl, upd_same, T.cl, T.nW, (by show 2 < 1000; decide), fun db hdb => ?_⟩
    have nb : p ≠ db := ne_of_none upd_same hdb
    have nlb : dl ≠ db := by
      rintro rfl
      rw [upd_ne (fun z => nl z.symm), upd_ne (fun z => nl z.symm), upd_same] at hdb
      cases hdb
    have hdb0 : H db = none := by
      rw [upd_ne (fun z => nb z.symm), upd_ne (fun z => nb z.symm), upd_ne (fun z => nlb z.symm), upd_ne (fun z => nb z.symm)] at hdb
      exact hdb
    refine ⟨_, rfl, p, C, dx, _, rfl, by rw [upd_ne nb]; exact upd_same, T.cl, T.nB, (by show 3 < 1000; decide), ?_⟩
    refine k _ dl db (fun a o ha ho => ?_) hdl0 hdb0 ⟨⟨la, dx, upd_same, hla⟩, ?_, ⟨[], ?_, .nil⟩, List.nodup_nil, nlb, gp, sG.free hdl0, sG.free hdb0⟩
    · rw [upd_ne ha, upd_ne (ne_of_none ho hdb0), upd_ne ha, upd_ne ha, upd_ne (ne_of_none ho hdl0), upd_ne ha]
      exact ho
    · rw [upd_ne (fun z => nl z.symm), upd_ne nlb, upd_ne (fun z => nl z.symm), upd_ne (fun z => nl z.symm), upd_same]
      rfl
    · rw [upd_ne (fun z => nb z.symm), upd_same]
abbrev sPlayer_copy : Stmt := inClass (top 31) 1
abbrev NPlayer_copy : List PySem.Str := ["self", "other"]
abbrev PPlayer_copy : List PySem.Str := ["self"]
theorem scPlayer_copy : FnScope NPlayer_copy PPlayer_copy (defScope sPlayer_copy) := ⟨rfl, rfl, rfl, by decide +kernel, rfl, by decide +kernel, by decide +kernel⟩
theorem ok_Player_copy {C f : Addr} {fd : FuncData} (F : Fun K "copy" "Player.copy" sPlayer_copy f fd) (B : Bt mg) (T : PlC K C) (m_Player : C8.Mak P w K mg base 1 "Player" C (sp_Player_init C) []) : FnOk P w K mg base CX0 3 f fd PPlayer_copy (sp_Player_copy C) := by
  refine F.ok scPlayer_copy (fun vs H Q E h => ?_) (fun cdv A outer s H vs Q E hr h => ?_)
  · obtain ⟨G, p, dl, db, L, st, rfl, _⟩ := h
    rfl
  · obtain ⟨G, p, dl, db, L, st, rfl, sG, hP, k⟩ := h
    have nd := scPlayer_copy.nd
    obtain ⟨la, dx, hp, hla⟩ := id hP.ob
    obtain ⟨kb, hb, hkb⟩ := id hP.bd
    have hl := hP.lk
    refine ⟨_, (pss_cons (ps_set (i := 1) nd rfl (Or.inl rfl) (C8.pe_mk m_Player hr (by decide) rfl (pa_cons (fldK (K := K) (pv 0) rfl) pa_nil)))
    (pss_cons (ps_fld (pv 1) (pe_callTy call_dictD (by rfl) B.dict (by decide +kernel) (pa_cons (fldK (K := K) (pv 0) rfl) pa_nil)) rfl)
    (pss_cons (ps_fld (pv 1) (fldK (K := K) (pv 0) rfl) rfl)
    (pss_cons (ps_fld (pv 1) (pe_callTy call_dictD (by rfl) B.dict (by decide +kernel) (pa_cons (fldK (K := K) (pv 0) rfl) pa_nil)) rfl)
    (pss_one (ps_ret (pv 1))))))), ?_⟩
    refine ⟨_, rfl, p, C, dx, _, _, rfl, hp, T.cl, T.nL, lk_layout, fun x dx' nx ndx nex => ?_⟩
    have s0 : Same H (upd (upd H dx' (.own x)) x (.ins C dx' [])) := fun b o e => by
      rw [upd_ne (ne_of_none e nx), upd_ne (ne_of_none e ndx)]; exact e
    refine ⟨G, x, dx', la, L, rfl, sG.trans s0, upd_same, sG.free nx, hla, fun H1 dl' db' kp hdl hdb D => ⟨rfl, ?_⟩⟩
    have s1 : Same H H1 := fun b o e => kp b o (ne_of_none e nx) (s0 b o e)
    have ndl : H dl' = none := s0.free hdl
    have ndb : H db' = none := s0.free hdb
    obtain ⟨la', dxn, hx, _⟩ := D.ob
    refine ⟨_, rfl, p, C, dx, _, _, rfl, s1 _ _ hp, T.cl, T.nK, lk_locked, dl, _, rfl, .inl (s1 _ _ hl), fun d2 hd2 => ?_⟩
    have nd2 : H d2 = none := s1.free hd2
    have nx2 : x ≠ d2 := ne_of_none hx hd2
    refine ⟨_, rfl, x, C, dxn, _, rfl, by rw [upd_ne nx2]; exact hx, T.cl, T.nK, (by show 4 < 1000; decide), ?_⟩
    have nxp : p ≠ x := ne_of_none hp nx
    have hp2 : (upd (upd H1 d2 (.dK (lkK st.locked))) x (.ins C dxn (putF "kept_locked" (.ref d2) (plF la' dl' (oV pl0.wait) db')))) p = some (.ins C dx (plF la dl (oV st.wait) db)) := by
      rw [upd_ne nxp, upd_ne (ne_of_none hp nd2)]
      exact s1 _ _ hp
    refine ⟨_, rfl, p, C, dx, _, _, rfl, hp2, T.cl, T.nW, lk_waiting, ?_⟩
    refine ⟨_, rfl, x, C, dxn, _, rfl, upd_same, T.cl, T.nW, (by rw [put_locked]; show 4 < 1000; decide), ?_⟩
    rw [put_locked, put_wait, upd_upd]
    have hp3 : ∀ o, (upd (upd H1 d2 (.dK (lkK st.locked))) x o) p = some (.ins C dx (plF la dl (oV st.wait) db)) := fun o => by
      rw [upd_ne nxp, upd_ne (ne_of_none hp nd2)]
      exact s1 _ _ hp
    have hb3 : ∀ o, (upd (upd H1 d2 (.dK (lkK st.locked))) x o) db = some (.dK kb) := fun o => by
      rw [upd_ne (ne_of_none hb nx), upd_ne (ne_of_none hb nd2)]
      exact s1 _ _ hb
    refine ⟨_, rfl, p, C, dx, _, _, rfl, hp3 _, T.cl, T.nB, lk_bound, db, kb, rfl, .inl (hb3 _), fun d3 hd3 => ?_⟩
    have nx3 : x ≠ d3 := ne_of_none upd_same hd3
    have n23 : d2 ≠ d3 := by
      rintro rfl
      rw [upd_ne (fun z => nx2 z.symm), upd_same] at hd3
      cases hd3
    have nd3 : H1 d3 = none := by
      rw [upd_ne (fun z => nx3 z.symm), upd_ne (fun z => n23 z.symm)] at hd3
      exact hd3
    refine ⟨_, rfl, x, C, dxn, _, rfl, by rw [upd_ne nx3]; exact upd_same, T.cl, T.nB, (by show 4 < 1000; decide), ?_⟩
    rw [put_bound]
    refine ⟨_, rfl, k _ x d2 d3 (fun b o e => ?_) nx nd2 (s1.free nd3) ⟨⟨la', dxn, upd_same, ?_⟩, ?_, ⟨kb, ?_, hkb⟩, hP.nd, n23, sG.free nx, sG.free nd2, sG.free (s1.free nd3)⟩⟩
    · rw [upd_ne (ne_of_none e nx), upd_ne (ne_of_none (s1 _ _ e) nd3), upd_ne (ne_of_none e nx), upd_ne (ne_of_none e nd2)]
      exact s1 _ _ e
    · obtain ⟨la2, _, hx2, hla2⟩ := D.ob
      rw [hx] at hx2
      have e := HO.ins.inj (Option.some.inj hx2)
      have e2 := congrArg (fun l => l.lookup ("kept_layout" : PySem.Str)) e.2.2
      have e3 : some (V.ref la') = some (V.ref la2) := e2
      rw [Option.some.inj e3]
      exact hla2
    · rw [upd_ne (fun z => nx2 z.symm), upd_ne n23, upd_ne (fun z => nx2 z.symm), upd_same]
    · rw [upd_ne (fun z => nx3 z.symm), upd_same]
abbrev sPlayer_is_on : Stmt := inClass (top 31) 2
abbrev NPlayer_is_on : List PySem.Str := ["self", "layer", "what"]
abbrev PPlayer_is_on : List PySem.Str := ["self", "layer"]
theorem scPlayer_is_on : FnScope NPlayer_is_on PPlayer_is_on (defScope sPlayer_is_on) := ⟨rfl, rfl, rfl, by decide +kernel, rfl, by decide +kernel, by decide +kernel⟩
theorem ok_Player_is_on {C f : Addr} {fd : FuncData} (F : Fun K "is_on" "Player.is_on" sPlayer_is_on f fd) (B : Bt mg) (T : PlC K C) : FnOk P w K mg base CX0 1 f fd PPlayer_is_on (sp_Player_is_on C) := by
  refine F.ok scPlayer_is_on (fun vs H Q E h => ?_) (fun cdv A outer s H vs Q E hr h => ?_)
  · obtain ⟨p, dl, db, L, st, j, rfl, _⟩ := h
    rfl
  · obtain ⟨p, dl, db, L, st, j, rfl, hP, hL, hbl, hbo, k⟩ := h
    have nd := scPlayer_is_on.nd
    have hu := hu_of hr
    obtain ⟨la, dx, hp, hla⟩ := id hP.ob
    obtain ⟨kb, hb, hkb⟩ := id hP.bd
    have hl := hP.lk
    have k2 : ∀ (b : Bool) H', Same H H' → st.on j = b → Q (.bl b) H' := fun b H' s e => by rw [← e]; exact k H' s
    refine ⟨_, (pss_cons (ps_if (PW.pt (pw_or (pt_cmpR op_eq (pv 1) pe_int (by first | exact nomark _ | rfl)) (pw_or (pt_cmp (pc_din hu (pv 1) (fldK (K := K) (pv 0) rfl))) (pw_or1 (pt_cmpR op_eq (pv 1) (fldK (K := K) (pv 0) rfl) (by first | exact nomark _ | rfl)))))) (pss_one (ps_ret pe_bl)) pss_nil)
    (pss_one (ps_ret (pe_callB (anyq rfl) (by rfl) B.any (by decide +kernel) (pa_cons (pe_lock (pe_lc (own := [("what", 2)]) rfl nd (pi_values (fldK (K := K) (pv 0) rfl)) (blkOk_by (own := [("what", 2)]) (N := NPlayer_is_on) (sc := defScope sPlayer_is_on) (by decide +kernel)) (fun _ _ _ _ _ => (pg_name (i := 2) nd rfl (Or.inl rfl))) (fun _ _ _ _ _ => pts_nil) (fun _ _ _ _ _ => (pe_cmpR (op_eqQ hr.units) (pv 2) (pe_tup (pa_cons pe_str (pa_cons (pv 1) pa_nil))) (by first | exact nomark _ | rfl))))) pa_nil))))), ?_⟩
    refine ⟨_, rfl, rfl, _, rfl, iteB (fun h => ?_) fun h0 => ?_⟩
    · have e : j = 0 := by simpa using h
      exact k2 _ _ (Same.refl H) (by simp [Pl.on, e])
    have h0' : (j == 0) = false := by
      have : ¬ j = 0 := by simpa using h0
      simpa using this
    refine ⟨_, rfl, _, rfl, p, C, dx, _, _, rfl, hp, T.cl, T.nK, lk_locked, dl, _, rfl, DGet.k (k := Sum.inl j) hl, _, rfl, ?_⟩
    rw [valV_lk]
    refine iteB (fun h => k2 _ _ (Same.refl H) (by simp only [Pl.on, h, Bool.true_or, Bool.or_true])) fun h1 => ?_
    refine ⟨_, rfl, _, rfl, p, C, dx, _, _, rfl, hp, T.cl, T.nW, lk_waiting, ?_⟩
    refine ⟨by cases st.wait <;> rfl, _, rfl, iteB (fun h => ?_) fun h2 => ?_⟩
    · refine k2 _ _ (Same.refl H) ?_
      have e : V.int j = oV st.wait := by simpa using h
      have e2 : (st.wait == some j) = true := by
        cases hw : st.wait with
        | none => rw [hw] at e; cases e
        | some i =>
          rw [hw] at e
          injection e with e
          rw [e]
          simp
      simp only [Pl.on, e2, Bool.true_or, Bool.or_true]
    have h2' : (st.wait == some j) = false := by
      have e : ¬ V.int j = oV st.wait := by simpa using h2
      cases hw : st.wait with
      | none => rfl
      | some i =>
        rw [hw] at e
        have : ¬ i = j := fun z => e (by rw [z]; rfl)
        simpa using this
    refine ⟨db, _, hb, trivial, fun od => ?_⟩
    have np : p ≠ db := ne_of hp hb (by intro z; cases z)
    refine ⟨_, rfl, p, C, dx, _, _, rfl, by rw [upd_ne np]; exact hp, T.cl, T.nB, lk_bound, db, od, kb, rfl, upd_same, fun D hD => ?_⟩
    have nD : db ≠ D := ne_of_none upd_same hD
    have hDH : H D = none := by rw [upd_ne (fun z => nD z.symm)] at hD; exact hD
    have hkl := hkb.length
    refine lcR (R := fun _ v (b : Bool) => v = V.bl b) (fun i => (st.bound[i]?).map fun b => b.2 == .lay j) (fun _ _ _ _ _ h => h) (walk_values (d := db) (o := od) (kvs := kb)) (by omega) (Gr.refl (Same.refl _)) (fun Gi Hi g => g.keep _ _ upd_same) hD (fun i x Gi Hi H' Ok No hi g y ok no => ?_) fun G' H' xs _ _ g2 hx ra => ?_
    · obtain ⟨rfl, key, hy⟩ := y
      obtain ⟨b, hb', dv⟩ : ∃ b, st.bound[i]? = some b ∧ Dq H x b.2.d := by
        have key2 : ∀ {r : List (Key × V)} {b : List (Int × Wt)} {i : Nat}, KB H r b → r[i]? = some (key, x) → ∃ c, b[i]? = some c ∧ Dq H x c.2.d := by
          intro r b i h
          induction h generalizing i with
          | nil => intro e; simp at e
          | cons h t ih =>
            intro e
            cases i with
            | zero =>
              simp at e
              obtain ⟨_, rfl⟩ := e
              exact ⟨_, rfl, h⟩
            | succ i => exact ih (by simpa using e)
        exact key2 hkb hy
      refine ⟨rfl, _, rfl, _, rfl, (by show 2 ≤ sizeLine; decide), fun q hq => ?_⟩
      have sv : ∀ {v : V} {d : PyData}, Fine 1 d → Dq H v d → Dq H' v d := fun _ h => (dq_lock hb h).of g.keep
      have fb := hbo b (List.mem_of_getElem? hb')
      have fl : Fine 1 (Wt.lay j).d := by
        intro z hz
        have e : z = .str "layer" ∨ z = .int j := by simpa [Wt.d, Wt.word, Wt.val] using hz
        rcases e with rfl | rfl
        · show PyData.strOk _ = true; decide +kernel
        · trivial
      refine ⟨1, b.2.d, (Wt.lay j).d, (sv (fineWt fb) dv).of (same_new hq), tp upd_same (.two (.str _) (.int _)), by decide, fineWt fb, fl, fun c hc => ?_⟩
      refine ok _ Gi _ c ((Gr.refl g.sub).same (same_new hq)) rfl ?_
      show ((st.bound[i]?).map fun b => b.2 == .lay j) = some c
      rw [hb']
      show some (b.2 == .lay j) = some c
      congr 1
      rw [Bool.eq_iff_iff, hc, beq_iff_eq]
      constructor
      · intro e; rw [e]
      · intro e
        cases hb2 : b.2 with
        | lay i =>
          rw [hb2] at e
          simp [Wt.d, Wt.val] at e
          rw [e.2]
        | code c => rw [hb2] at e; exact absurd e (by intro z; simp [Wt.d, Wt.val, Wt.word] at z)
        | lock i => rw [hb2] at e; exact absurd e (by intro z; simp [Wt.d, Wt.val, Wt.word] at z; exact absurd z.1 (by decide +kernel))
        | once i => rw [hb2] at e; exact absurd e (by intro z; simp [Wt.d, Wt.val, Wt.word] at z; exact absurd z.1 (by decide +kernel))
    · have hD' := g2.sub _ _ hx
      have hf : H' db = some (.frz od (.dK kb)) := g2.keep _ _ upd_same
      have exs : xs = ((st.bound.map fun b => b.2 == .lay j).map V.bl) := by
        have e1 : made (fun i => (st.bound[i]?).map fun b => b.2 == .lay j) kb.length = st.bound.map fun b => b.2 == .lay j := by
          rw [hkl, made_map]
        rw [e1] at ra
        have key : ∀ {xs : List V} {bs : List Bool}, RAll (fun _ v (b : Bool) => v = V.bl b) G' xs bs → xs = bs.map V.bl := by
          intro xs bs h
          induction h with
          | nil => rfl
          | cons h t ih => rw [h, ih]; rfl
        exact key ra
      refine ⟨hf, D, st.bound.map fun b => b.2 == .lay j, rfl, by rw [upd_ne (fun z => nD z.symm), hD', exs], ?_⟩
      refine k2 _ _ (fun b o e => ?_) ?_
      · by_cases eb : b = db
        · subst eb
          rw [upd_same, ← hb]
          exact e
        · rw [upd_ne eb]
          exact g2.keep _ _ (by rw [upd_ne eb]; exact e)
      · simp only [Pl.on, h0', h1, h2', Bool.false_or, List.any_map]
        rfl
end
end HT7
end partW6
section partW7
set_option Elab.async false
set_option linter.all false
set_option maxRecDepth 100000
namespace HT7
open PySem PySem.Spec PyProof.Rows L2 HT5 HT6
theorem DqAll.snocE {G : Hp} : ∀ {ds : List PyData} {vs : List V} {d : PyData}, DqAll G vs (ds ++ [d]) → ∃ ws v, vs = ws ++ [v] ∧ Dq G v d
  | [], vs, d, h => by
    obtain ⟨v, rfl, hv⟩ := h.oneE
    exact ⟨[], v, rfl, hv⟩
  | e :: ds, vs, d, h => by
    obtain ⟨u, us, rfl, hu, t⟩ := DqAll.consE (show DqAll G vs (e :: (ds ++ [d])) from h)
    obtain ⟨ws, v, rfl, hv⟩ := DqAll.snocE t
    exact ⟨u :: ws, v, rfl, hv⟩
theorem made_filter {β : Type} (p : Nat → Bool) (f : Nat → β) (n : Nat) : made (fun i => if p i then some (f i) else none) n = ((List.range n).filter p).map f := by
  unfold made
  induction List.range n with
  | nil => rfl
  | cons a l ih =>
    by_cases h : p a = true
    · rw [List.filter_cons_of_pos h, List.map_cons, ← ih]
      simp [h]
    · rw [List.filter_cons_of_neg h, ← ih]
      simp [h]
/-! what look gives -/
theorem lay_get {L : Lay} (hL : LayOk L) {l : Nat} {k : Int} (hl : l < L.length) (hk : 0 ≤ k ∧ k < mWide L) : ∃ r, L[l]? = some r ∧ r[k.toNat]? = some (actAt L l k) ∧ AcOk l L.length (actAt L l k) := by
  have e1 : L[l]? = some (L[l]'hl) := List.getElem?_eq_getElem hl
  have hw := hL.row _ (List.mem_of_getElem? e1)
  have hk2 : k.toNat < (L[l]'hl).length := by
    rw [hw]
    have := hk.2
    unfold mWide at this
    omega
  have e2 : (L[l]'hl)[k.toNat]? = some ((L[l]'hl)[k.toNat]'hk2) := List.getElem?_eq_getElem hk2
  have e3 : actAt L l k = (L[l]'hl)[k.toNat]'hk2 := by
    unfold actAt
    simp [hl, hk2]
  refine ⟨_, e1, by rw [e2, e3], ?_⟩
  rw [e3]
  exact hL.act l _ e1 _ (List.mem_of_getElem? e2)
theorem zero_on (st : Pl) : st.on ((0 : Nat) : Int) = true := by simp [Pl.on]
theorem found_ne {L : Lay} (hL : LayOk L) (st : Pl) {k : Int} (hk : 0 ≤ k ∧ k < mWide L) : ((mFound L st k).filter fun r => r.2 ≠ .thr) ≠ [] := by
  intro e
  have hm : (0, actAt L 0 k) ∈ ((mFound L st k).filter fun r => r.2 ≠ .thr) := by
    rw [List.mem_filter]
    obtain ⟨r, _, _, ok⟩ := lay_get hL (l := 0) (by have := hL.h1; omega) hk
    refine ⟨List.mem_map.mpr ⟨0, List.mem_filter.mpr ⟨List.mem_range.mpr (by have := hL.h1; omega), zero_on st⟩, rfl⟩, ?_⟩
    have : actAt L 0 k ≠ .thr := by
      intro z
      rw [z] at ok
      have : 0 < 0 := ok
      omega
    simpa using this
  rw [e] at hm
  cases hm
theorem look_mem {L : Lay} (hL : LayOk L) (st : Pl) {k : Int} (hk : 0 ≤ k ∧ k < mWide L) : ∃ F, ((mFound L st k).filter fun r => r.2 ≠ .thr) = F ++ [mLook L st k] := by
  have h := found_ne hL st hk
  refine ⟨((mFound L st k).filter fun r => r.2 ≠ .thr).dropLast, ?_⟩
  unfold mLook
  rw [List.getLastD_eq_getLast?, List.getLast?_eq_some_getLast h]
  exact (List.dropLast_concat_getLast h).symm
theorem look_ok {L : Lay} (hL : LayOk L) (st : Pl) {k : Int} (hk : 0 ≤ k ∧ k < mWide L) : (mLook L st k).2 ≠ .thr ∧ (mLook L st k).1 < L.length ∧ AcOk (mLook L st k).1 L.length (mLook L st k).2 := by
  obtain ⟨F, e⟩ := look_mem hL st hk
  have hm : mLook L st k ∈ ((mFound L st k).filter fun r => r.2 ≠ .thr) := by rw [e]; simp
  obtain ⟨h1, h2⟩ := List.mem_filter.mp hm
  obtain ⟨l, hl, e2⟩ := List.mem_map.mp h1
  have hl2 : l < L.length := List.mem_range.mp (List.mem_filter.mp hl).1
  obtain ⟨_, _, _, ok⟩ := lay_get hL hl2 hk
  refine ⟨by simpa using h2, ?_, ?_⟩
  · rw [← e2]; exact hl2
  · rw [← e2]; exact ok
section
variable {P : Program} {w : World} {K : PySem.W.Frag} {mg : Str → Option Value} {base : Heap}
abbrev sPlayer_layers_here : Stmt := inClass (top 31) 3
abbrev NPlayer_layers_here : List PySem.Str := ["self", "layer"]
abbrev PPlayer_layers_here : List PySem.Str := ["self"]
theorem scPlayer_layers_here : FnScope NPlayer_layers_here PPlayer_layers_here (defScope sPlayer_layers_here) := ⟨rfl, rfl, rfl, by decide +kernel, rfl, by decide +kernel, by decide +kernel⟩
theorem ok_Player_layers_here {C f : Addr} {fd : FuncData} (F : Fun K "layers_here" "Player.layers_here" sPlayer_layers_here f fd) (B : Bt mg) (T : PlC K C) (m_Player_is_on : C8.Met P w K mg base 1 C "is_on" (sp_Player_is_on C) []) : FnOk P w K mg base CX0 2 f fd PPlayer_layers_here (sp_Player_layers_here C) := by
  refine F.ok scPlayer_layers_here (fun vs H Q E h => ?_) (fun cdv A outer s H vs Q E hr h => ?_)
  · obtain ⟨p, dl, db, L, st, rfl, _⟩ := h
    rfl
  · obtain ⟨p, dl, db, L, st, rfl, hP, hL, hbl, hbo, k⟩ := h
    have nd := scPlayer_layers_here.nd
    obtain ⟨la, dx, hp, hla⟩ := id hP.ob
    obtain ⟨a, xs, e, ha, t⟩ := Dq.lstE hla
    cases e
    have hl : xs.length = L.length := by rw [t.length, List.length_map]
    have h6 := hL.h6
    refine ⟨_, (pss_one (ps_ret (pe_lc (own := [("layer", 1)]) rfl nd (pi_range1 rfl B.range (pa_cons (pe_callB lenLq (by rfl) B.len (by decide +kernel) (pa_cons (fldK (K := K) (pv 0) rfl) pa_nil)) pa_nil)) (blkOk_by (own := [("layer", 1)]) (N := NPlayer_layers_here) (sc := defScope sPlayer_layers_here) (by decide +kernel)) (fun _ _ _ _ _ => (pg_name (i := 1) nd rfl (Or.inl rfl))) (fun _ _ _ _ _ => (pts_one (pt_val (C8.pe_mt m_Player_is_on hr (by decide) (pv 0) (pa_cons (pv 1) pa_nil))))) (fun _ _ _ _ _ => (pv 1))))), ?_⟩
    refine ⟨_, rfl, p, C, dx, _, _, rfl, hp, T.cl, T.nL, lk_layout, la, xs, rfl, ha, _, rfl, by omega, by omega, fun D hD => ?_⟩
    refine lcD (G := H) (G1 := H) (fun i => if st.on (i : Nat) then some (.int (i : Nat)) else none) (walk_range (lo := 0) (n := (xs.length : Int).toNat)) (by omega) (Gr.refl (Same.refl H)) (fun _ _ _ => trivial) hD (fun i x Gi Hi H' Ok No hi g y ok no => ?_) fun G' H' g1 g2 dq => ?_
    · obtain ⟨rfl, hx⟩ := y
      have e0 : (0 : Int) + (i : Nat) = (i : Nat) := by omega
      obtain rfl : x = V.int (i : Nat) := hx.trans (congrArg V.int e0)
      refine ⟨rfl, _, rfl, p, dx, _, rfl, g.keep _ _ hp, lk_other (by decide +kernel), _, rfl, p, dl, db, L, st, (i : Nat), rfl, hP.mono g.keep, hL, hbl, hbo, fun H2 s2 => ⟨_, rfl, ?_⟩⟩
      refine iteB (fun h => ⟨_, rfl, ok _ Gi H2 _ ((Gr.refl g.sub).same s2) (.int _) ?_⟩) fun h => no Gi H2 ((Gr.refl g.sub).same s2) ?_
      · show (if st.on (i : Nat) = true then _ else _) = _
        rw [if_pos h]
      · show (if st.on (i : Nat) = true then _ else _) = _
        rw [h]
        rfl
    · have e1 : (xs.length : Int).toNat = L.length := by omega
      rw [e1, made_filter] at dq
      obtain ⟨q, ys, e2, hq, t2⟩ := dq.lstE
      cases e2
      have e3 : ((List.range L.length).filter fun i => st.on (i : Nat)).map (fun i => PyData.int ((i : Nat) : Int)) = ((mLayers L st).map fun l => ((l : Nat) : Int)).map PyData.int := by
        rw [List.map_map]
        rfl
      rw [e3] at t2
      refine k H' D g2.keep hD ?_
      rw [g2.sub _ _ hq, dp_intsE t2, List.map_map]
      rfl
abbrev sPlayer_look : Stmt := inClass (top 31) 5
abbrev NPlayer_look : List PySem.Str := ["self", "key", "found", "layer", "row"]
abbrev PPlayer_look : List PySem.Str := ["self", "key"]
theorem scPlayer_look : FnScope NPlayer_look PPlayer_look (defScope sPlayer_look) := ⟨rfl, rfl, rfl, by decide +kernel, rfl, by decide +kernel, by decide +kernel⟩
theorem ok_Player_look {C f : Addr} {fd : FuncData} (F : Fun K "look" "Player.look" sPlayer_look f fd) (B : Bt mg) (T : PlC K C) (m_Player_layers_here : C8.Met P w K mg base 2 C "layers_here" (sp_Player_layers_here C) []) : FnOk P w K mg base CX0 3 f fd PPlayer_look (sp_Player_look C) := by
  refine F.ok scPlayer_look (fun vs H Q E h => ?_) (fun cdv A outer s H vs Q E hr h => ?_)
  · obtain ⟨G, p, dl, db, L, st, key, rfl, _⟩ := h
    rfl
  · obtain ⟨G, p, dl, db, L, st, key, rfl, sG, hP, hL, hbo, hsz, hk, k⟩ := h
    have nd := scPlayer_look.nd
    obtain ⟨la, dx, hp, hla⟩ := id hP.ob
    obtain ⟨a, xs, e, ha, t⟩ := Dq.lstE hla
    cases e
    have hl : xs.length = L.length := by rw [t.length, List.length_map]
    have h6 := hL.h6
    have hml : (mLayers L st).length ≤ 6 := Nat.le_trans (Nat.le_trans (List.length_filter_le _ _) (by simp)) h6
    refine ⟨_, (pss_cons (ps_setLc (i := 2) (own := [("layer", 3)]) rfl nd rfl rfl (sw_true rfl rfl rfl (by decide +kernel)) (pi_list (C8.pe_mt0 m_Player_layers_here hr (by decide) (pv 0))) (blkOk_by (own := [("layer", 3)]) (N := NPlayer_look) (sc := defScope sPlayer_look) (by decide +kernel)) (fun _ _ _ _ _ => (pg_name (i := 3) nd rfl (Or.inl rfl))) (fun _ _ _ _ _ => pts_nil) (fun _ _ _ _ _ => (pe_tup (pa_cons (pv 3) (pa_cons (pe_ix ixlq (pe_ix ixlq (fldK (K := K) (pv 0) rfl) (pv 3) (fun _ _ => rfl)) (pv 1) (fun _ _ => rfl)) pa_nil)))))
    (pss_one (ps_ret (pe_ix ixlq (pe_lc (own := [("row", 4)]) rfl nd (pi_list (pv 2)) (blkOk_by (own := [("row", 4)]) (N := NPlayer_look) (sc := defScope sPlayer_look) (by decide +kernel)) (fun _ _ _ _ _ => (pg_name (i := 4) nd rfl (Or.inl rfl))) (fun _ _ _ _ _ => (pts_one (pt_cmpR (op_neQ hr.units) (pe_ix ixtq (pv 4) pe_int (fun _ _ => rfl)) pe_str (by first | exact nomark _ | rfl)))) (fun _ _ _ _ _ => (pv 4))) (pe_un un_neg pe_int) (fun _ _ => rfl))))), ?_⟩
    refine ⟨_, rfl, p, dx, _, rfl, hp, lk_other (by decide +kernel), p, dl, db, L, st, rfl, hP.r sG, hL, (by unfold Pl.size at hsz; omega), hbo, fun H1 q s1 hq0 hq => ?_⟩
    refine ⟨q, rfl, ⟨_, sqL hq⟩, fun D hD => ?_⟩
    refine lcD (G := G) (G1 := G) (fun i => ((mLayers L st)[i]?).map fun l => .tuple [.int (l : Nat), (actAt L l key).d]) (walkL (K := K) (a := q) (xs := (mLayers L st).map fun l => V.int (l : Nat))) (by rw [List.length_map]; omega) ((Gr.refl sG).same s1) (fun Gi Hi g => g.keep _ _ hq) hD (fun i x Gi Hi H' Ok No hi g y ok no => ?_) fun G' H' g1 g2 dq => ?_
    · obtain ⟨rfl, hy⟩ := y
      rw [List.getElem?_map] at hy
      cases el : (mLayers L st)[i]? with
      | none => rw [el] at hy; cases hy
      | some l =>
        rw [el] at hy
        cases hy
        have hll : l < L.length := List.mem_range.mp (List.mem_filter.mp (List.mem_of_getElem? el)).1
        obtain ⟨r, er, ek, _⟩ := lay_get hL hll hk
        obtain ⟨vr, evr, dvr⟩ := get_map t er
        obtain ⟨b, ys, eb, hb, tb⟩ := dvr.lstE
        subst eb
        obtain ⟨va, eva, dva⟩ := get_map tb ek
        have s2 : Same H1 H' := g.keep
        have gG : Same G H' := sG.trans (s1.trans s2)
        refine ⟨rfl, _, rfl, _, rfl, p, C, dx, _, _, rfl, s2 _ _ (s1 _ _ hp), T.cl, T.nL, lk_layout, _, rfl, la, xs, _, V.ref b, rfl, rfl, gG _ _ ha, atI_nat evr, _, rfl, b, ys, _, va, rfl, rfl, gG _ _ hb, ?_, ?_⟩
        · have : key = ((key.toNat : Nat) : Int) := by omega
          rw [this]
          exact atI_nat eva
        refine ⟨by show 2 ≤ sizeLine; decide, fun z hz => ?_⟩
        refine ok _ (upd Gi z (.tup [.int (l : Nat), va])) _ (.tuple [.int (l : Nat), (actAt L l key).d]) ((Gr.refl g.sub).fr hz) (newT (g.sub.free hz) (.two (.int _) (dva.of g.ext))) ?_
        show ((mLayers L st)[i]?).map _ = _
        rw [el]
        rfl
    · have e1 : made (fun i => ((mLayers L st)[i]?).map fun l => PyData.tuple [.int (l : Nat), (actAt L l key).d]) ((mLayers L st).map fun l => V.int (l : Nat)).length = (mFound L st key).map fun r => .tuple [.int (r.1 : Nat), r.2.d] := by
        rw [List.length_map, made_map]
        unfold mFound
        rw [List.map_map]
        rfl
      rw [e1] at dq
      obtain ⟨D', fs, e2, hF, tF⟩ := dq.lstE
      cases e2
      have hfl : fs.length ≤ 6 := by
        rw [tF.length, List.length_map]
        unfold mFound
        rw [List.length_map]
        exact hml
      refine ⟨_, rfl, D, rfl, ⟨_, sqL (g2.sub _ _ hF)⟩, fun D2 hD2 => ?_⟩
      refine lcD (G := G) (G1 := G') (fun i => ((mFound L st key)[i]?).bind fun r => if r.2 = .thr then none else some (.tuple [.int (r.1 : Nat), r.2.d])) (walkL (K := K) (a := D) (xs := fs)) (by omega) g1 (fun Gi Hi g => g.keep _ _ (g2.sub _ _ hF)) hD2 (fun i x Gi Hi H2 Ok No hi g y ok no => ?_) fun G2 H2 g3 g4 dq2 => ?_
      · obtain ⟨rfl, hy⟩ := y
        obtain ⟨r, er, dv⟩ := getV_map tF hy
        obtain ⟨z, zs, ez, hz, tz⟩ := dv.tupE
        subst ez
        obtain ⟨z1, z2, rfl, d1, d2⟩ := tz.twoE
        have hzH : H2 z = some (.tup [z1, z2]) := g.keep _ _ (g2.sub _ _ hz)
        have ok2 : AcOk r.1 L.length r.2 := by
          have hm := List.mem_of_getElem? er
          obtain ⟨l, hl2, e3⟩ := List.mem_map.mp hm
          rw [← e3]
          obtain ⟨_, _, _, ok⟩ := lay_get hL (List.mem_range.mp (List.mem_filter.mp hl2).1) hk
          exact ok
        have ft : Fine 2 (.str "through") := by show PyData.strOk _ = true; decide +kernel
        refine ⟨rfl, _, rfl, z, _, _, _, rfl, rfl, hzH, atI_nat (j := 1) rfl, 2, r.2.d, .str "through", d2.of (g2.sub.trans g.keep), .str _, by decide, fineAc ok2, ft, fun c hc => ⟨c, rfl, ?_⟩⟩
        have hthr : r.2.d = .str "through" ↔ r.2 = .thr := by
          constructor
          · intro e
            cases hr2 : r.2 with
            | thr => rfl
            | non => rw [hr2] at e; exact absurd (PyData.str.inj e) (by decide +kernel)
            | w x => rw [hr2] at e; cases e
            | dual c h t r => rw [hr2] at e; cases e
          · intro e; rw [e]; rfl
        have efull : (((mFound L st key)[i]?).bind fun r => if r.2 = .thr then none else some (PyData.tuple [.int (r.1 : Nat), r.2.d])) = if r.2 = .thr then none else some (.tuple [.int (r.1 : Nat), r.2.d]) := by rw [er]; rfl
        refine iteB (fun h => ⟨_, rfl, ok _ Gi _ _ (Gr.refl g.sub) (Dq.of (show Dq G' (.ref z) (.tuple [.int (r.1 : Nat), r.2.d]) from tp hz (.two d1 d2)) g.ext) ?_⟩) fun h => no Gi _ (Gr.refl g.sub) ?_
        · have : ¬ r.2 = .thr := fun e => (hc.mp h) (hthr.mpr e)
          show (((mFound L st key)[i]?).bind _) = _
          rw [efull, if_neg this]
        · have : r.2 = .thr := by
            by_cases e : r.2 = .thr
            · exact e
            · have := hc.mpr (fun z => e (hthr.mp z))
              rw [h] at this
              cases this
          show (((mFound L st key)[i]?).bind _) = _
          rw [efull, if_pos this]
      · have e4 : made (fun i => ((mFound L st key)[i]?).bind fun r => if r.2 = .thr then none else some (PyData.tuple [.int (r.1 : Nat), r.2.d])) fs.length = ((mFound L st key).filter fun r => r.2 ≠ .thr).map fun r => .tuple [.int (r.1 : Nat), r.2.d] := by
          have : fs.length = (mFound L st key).length := by rw [tF.length, List.length_map]
          rw [this, made_get]
          induction mFound L st key with
          | nil => rfl
          | cons r l ih =>
            by_cases h : r.2 = .thr
            · rw [List.filterMap_cons, List.filter_cons_of_neg (by simpa using h), ih]
              simp [h]
            · rw [List.filterMap_cons, List.filter_cons_of_pos (by simpa using h), ih]
              simp [h]
        obtain ⟨FF, eF⟩ := look_mem hL st hk
        rw [e4, eF, List.map_append] at dq2
        obtain ⟨D3, gs, e5, h5, t5⟩ := dq2.lstE
        cases e5
        obtain ⟨ws, v, rfl, dv⟩ := DqAll.snocE t5
        refine ⟨_, rfl, D2, _, _, v, rfl, rfl, g4.sub _ _ h5, atI_last ws v, ?_⟩
        exact k v G2 H2 g3 dv
end
end HT7
end partW7
section partW8
set_option Elab.async false
set_option linter.all false
set_option maxRecDepth 100000
namespace HT7
open PySem PySem.Spec PyProof.Rows L2 HT5 HT6
theorem nonD {a : Ac} : a.d = .str "none" ↔ a = .non := by
  constructor
  · intro e
    cases a with
    | non => rfl
    | thr => exact absurd (PyData.str.inj e) (by decide +kernel)
    | w x => cases e
    | dual c h t r => cases e
  · intro e; rw [e]; rfl
theorem carried_cases {a : Ac} (h : a ≠ .thr) (tap : Bool) : mCarried a tap = .non ∨ ∃ x, mCarried a tap = .w x := by
  cases a with
  | non => exact .inl rfl
  | thr => exact absurd rfl h
  | w x => exact .inr ⟨x, rfl⟩
  | dual c h t r => exact .inr ⟨_, rfl⟩
theorem carried_ok {l n : Nat} {a : Ac} (h : AcOk l n a) (tap : Bool) : AcOk l n (mCarried a tap) := by
  cases a with
  | non => exact h
  | thr => exact h
  | w x => exact h
  | dual c hh t r =>
    obtain ⟨x1, x2, _⟩ := h
    cases tap with
    | true => exact x1
    | false =>
      show AcOk l n (.w hh)
      cases hh with
      | code c => exact x2
      | lay j => exact x2
      | lock j => exact x2.elim
      | once j => exact x2.elim
theorem lkK_put {l : List Int} {j : Int} (h : l.contains j = false) : putK (lkK l) (Sum.inl j) (V.bl true) = lkK (l ++ [j]) := by
  have e : valV (lkK l) (Sum.inl j) = none := by
    have z := valV_lk l j
    rw [h] at z
    cases q : valV (lkK l) (Sum.inl j) with
    | none => rfl
    | some v => rw [q] at z; cases z
  rw [putK_new _ e]
  unfold lkK
  rw [List.map_append]
  rfl
theorem lkK_drop {l : List Int} {j : Int} : dropK (lkK l) (Sum.inl j) = lkK (l.filter (· ≠ j)) := by
  induction l with
  | nil => rfl
  | cons a r ih =>
    show dropK ((Sum.inl a, V.bl true) :: lkK r) (Sum.inl j) = _
    by_cases e : a = j
    · subst e
      rw [dropK_pos rfl, ih, List.filter_cons_of_neg (by simp)]
    · rw [dropK_neg (fun z => e (Sum.inl.inj z)), ih, List.filter_cons_of_pos (by simpa using e)]
      rfl
theorem filter_keys {b : List (Int × Wt)} {k : Int} (h : (b.map (·.1)).Nodup) : ((b.filter (·.1 ≠ k)).map (·.1)).Nodup := h.sublist (List.filter_sublist.map _)
section
variable {P : Program} {w : World} {K : PySem.W.Frag} {mg : Str → Option Value} {base : Heap}
abbrev sPlayer_down : Stmt := inClass (top 31) 6
abbrev NPlayer_down : List PySem.Str := ["self", "key", "decide", "what", "word", "value"]
abbrev PPlayer_down : List PySem.Str := ["self", "key", "decide"]
theorem scPlayer_down : FnScope NPlayer_down PPlayer_down (defScope sPlayer_down) := ⟨rfl, rfl, rfl, by decide +kernel, rfl, by decide +kernel, by decide +kernel⟩
theorem ok_Player_down {C f : Addr} {fd : FuncData} (F : Fun K "down" "Player.down" sPlayer_down f fd) (B : Bt mg) (T : PlC K C) (m_Player_look : C8.Met P w K mg base 3 C "look" (sp_Player_look C) []) (c_carried_out : C8.Cal P w K mg base 2 "carried_out" sp_carried_out []) : FnOk P w K mg base CX0 4 f fd PPlayer_down (sp_Player_down C) := by
  refine F.ok scPlayer_down (fun vs H Q E h => ?_) (fun cdv A outer s H vs Q E hr h => ?_)
  · obtain ⟨G, p, dl, db, L, st, k, d, rfl, _⟩ := h
    rfl
  · obtain ⟨G, p, dl, db, L, st, key, d, rfl, sG, hP, hL, hbo, hsz, hk, hdd, k⟩ := h
    have nd := scPlayer_down.nd
    have hu := hu_of hr
    refine ⟨_, (pss_cons (ps_set (i := 3) nd rfl (Or.inl rfl) (C8.pe_c c_carried_out hr (by decide) rfl (pa_cons (pe_ix ixtq (C8.pe_mt m_Player_look hr (by decide) (pv 0) (pa_cons (pv 1) pa_nil)) pe_int (fun _ _ => rfl)) (pa_cons (pv 2) pa_nil))))
    (pss_cons (ps_fld (pv 0) pe_non rfl)
    (pss_cons (ps_if (pt_cmpR (op_eqQ hr.units) (pv 3) pe_str (by first | exact nomark _ | rfl)) (pss_one (ps_ret (pe_tup pa_nil))) pss_nil)
    (pss_cons (ps_asg (pv 3) (pg_tupq (n := 2) rfl (pgs_cons (pg_name (i := 4) nd rfl (Or.inl rfl)) (pgs_cons (pg_name (i := 5) nd rfl (Or.inl rfl)) pgs_nil))))
    (pss_cons (HT1.ps_match (pv 4) (HT1.pm_str (pss_cons (ps_dput hu (fldK (K := K) (pv 0) rfl) (pv 1) (pv 3) rfl)
    (pss_one (ps_ret (pe_tup (pa_cons pe_str (pa_cons (pv 5) pa_nil)))))) (HT1.pm_str (pss_one (ps_dput hu (fldK (K := K) (pv 0) rfl) (pv 1) (pv 3) rfl)) (HT1.pm_str (pss_one (ps_if (pt_cmp (pc_din hu (pv 5) (fldK (K := K) (pv 0) rfl))) (pss_one (ps_ddel (fldK (K := K) (pv 0) rfl) (pv 5))) (pss_one (ps_dput hu (fldK (K := K) (pv 0) rfl) (pv 5) pe_bl rfl)))) (HT1.pm_any (pss_one (ps_fld (pv 0) (pv 5) rfl)))))))
    (pss_one (ps_ret (pe_tup pa_nil)))))))), ?_⟩
    obtain ⟨la, dx, hp, hla⟩ := id hP.ob
    refine ⟨_, rfl, p, dx, _, rfl, hp, lk_other (by decide +kernel), _, rfl, G, p, dl, db, L, st, key, rfl, sG, hP, hL, hbo, hsz, hk, fun v G1 H1 g1 dv => ?_⟩
    obtain ⟨q, xs, rfl, hq, t⟩ := dv.tupE
    obtain ⟨v1, v2, rfl, d1, d2⟩ := t.twoE
    refine ⟨q, _, _, _, rfl, rfl, g1.sub _ _ hq, atI_nat (j := 1) rfl, _, rfl, G1, v2, (mLook L st key).2, d, rfl, g1.sub, d2, hdd, fun what G2 H2 g2 dw => ?_⟩
    obtain ⟨nthr, _, aok⟩ := look_ok hL st hk
    have g02 := g1.trans g2
    have hP2 := hP.gr g02
    obtain ⟨la2, dx2, hp2, hla2⟩ := id hP2.ob
    refine ⟨_, rfl, p, C, dx2, _, rfl, hp2, T.cl, T.nW, (by show 4 < 1000; decide), ?_⟩
    rw [put_wait]
    have o1 : own3 p dl db p := .inl rfl
    have gP : GrP (own3 p dl db) G H G2 (upd H2 p (.ins C dx2 (plF la2 dl .non db))) := (GrP.of g02).set o1 hP2.gp (by rw [hp2]; exact nofun)
    have hP3 : PlAt C G2 (upd H2 p (.ins C dx2 (plF la2 dl .non db))) p dl db L { st with wait := none } := by
      obtain ⟨kb, hb, hkb⟩ := id hP2.bd
      refine ⟨⟨la2, dx2, upd_same, hla2⟩, ?_, ⟨kb, ?_, hkb⟩, hP2.nd, hP2.ne, hP2.gp, hP2.gl, hP2.gb⟩
      · rw [upd_ne (ne_of hP2.lk hp2 (by intro z; cases z))]; exact hP2.lk
      · rw [upd_ne (ne_of hb hp2 (by intro z; cases z))]; exact hb
    generalize hH3 : upd H2 p (.ins C dx2 (plF la2 dl .non db)) = H3 at gP hP3 ⊢
    have s3 : Same G2 H3 := gP.sub
    have fw : Fine 2 (mCarried (mLook L st key).2 (isTap d)).d := fineAc (carried_ok aok _)
    have fn : Fine 2 (.str "none") := by show PyData.strOk _ = true; decide +kernel
    refine ⟨_, rfl, 2, _, .str "none", dw.of s3, .str _, by decide, fw, fn, fun c hc => ⟨c, rfl, ?_⟩⟩
    have emd : mDown L st key (isTap d) = doWhat { st with wait := none } key (mCarried (mLook L st key).2 (isTap d)) := rfl
    rw [emd] at k
    rcases carried_cases nthr (isTap d) with e | ⟨x, e⟩
    · rw [e] at k hc
      obtain rfl : c = true := hc.mpr rfl
      refine ⟨Nat.zero_le _, fun z hz => ?_⟩
      have hzG : G2 z = none := s3.free hz
      have gz : Gr G2 H3 (upd G2 z (.tup [])) (upd H3 z (.tup [])) := (Gr.refl s3).fr hz
      exact k _ (upd G2 z (.tup [])) _ (gP.trans (GrP.of gz)) (hP3.gr gz) (newT hzG .nil)
    · rw [e] at k hc dw
      obtain rfl : c = false := by
        cases c with
        | false => rfl
        | true => exact absurd (hc.mp rfl) (by intro z; cases z)
      obtain ⟨qw, ws, rfl, hw, tw⟩ := (show Dq G2 what (.tuple [.str x.word, x.val]) from dw).tupE
      obtain ⟨w1, w2, rfl, dw1, dw2⟩ := tw.twoE
      obtain rfl := dw1.strE
      refine ⟨_, rfl, qw, _, rfl, s3 _ _ hw, rfl, _, _, rfl, _, _, rfl, rfl, ?_⟩
      obtain ⟨la3, dx3, hp3, hla3⟩ := id hP3.ob
      obtain ⟨kb, hb, hkb⟩ := id hP3.bd
      have hl3 := hP3.lk
      have ob : own3 p dl db db := .inr (.inr rfl)
      have ol : own3 p dl db dl := .inr (.inl rfl)
      have kbn : (kb.map (·.1)).Nodup := by
        rw [hkb.keys]
        have z : st.bound.map (fun q => (Sum.inl q.1 : Key)) = (st.bound.map (·.1)).map Sum.inl := by rw [List.map_map]; rfl
        show (st.bound.map fun q => (Sum.inl q.1 : Key)).Nodup
        rw [z]
        exact List.Pairwise.map _ (fun a b h z => h (Sum.inl.inj z)) hP3.nd
      have kbl : kb.length < sizeLine := by
        have := hkb.length
        unfold Pl.size at hsz
        exact small1000 (by show kb.length ≤ 1000; rw [this]; show st.bound.length ≤ 1000; omega)
      have lkl : (lkK st.locked).length < sizeLine := by
        unfold lkK
        rw [List.length_map]
        unfold Pl.size at hsz
        exact small1000 (by omega)
      -- a store into what is bound
      have put : PlAt C G2 (upd H3 db (.dK (putK kb (Sum.inl key) (.ref qw)))) p dl db L (Pl.bind { st with wait := none } key x) := by
        refine ⟨⟨la3, dx3, ?_, hla3⟩, ?_, ⟨_, upd_same, hkb.put dw kbn⟩, (putB_keys key x st.bound hP3.nd).1, hP3.ne, hP3.gp, hP3.gl, hP3.gb⟩
        · rw [upd_ne (ne_of hp3 hb (by intro z; cases z))]; exact hp3
        · rw [upd_ne hP3.ne]; exact hl3
      have gput : GrP (own3 p dl db) G H G2 (upd H3 db (.dK (putK kb (Sum.inl key) (.ref qw)))) := gP.set ob hP3.gb (by rw [hb]; exact nofun)
      -- the end: return ()
      have fin : ∀ (H4 : Hp) (st' : Pl), GrP (own3 p dl db) G H G2 H4 → PlAt C G2 H4 p dl db L st' → doWhat { st with wait := none } key (.w x) = (none, st') → ([] : List V).length ≤ sizeLine ∧ ∀ z, H4 z = none → Q (.ref z) (upd H4 z (.tup [])) := fun H4 st' g4 hP4 e4 => by
        refine ⟨Nat.zero_le _, fun z hz => ?_⟩
        have gz : Gr G2 H4 (upd G2 z (.tup [])) (upd H4 z (.tup [])) := (Gr.refl g4.sub).fr hz
        have z1 : PlAt C (upd G2 z (.tup [])) (upd H4 z (.tup [])) p dl db L (doWhat { st with wait := none } key (.w x)).2 := by rw [e4]; exact hP4.gr gz
        refine k _ (upd G2 z (.tup [])) _ (g4.trans (GrP.of gz)) z1 ?_
        rw [e4]
        exact newT (g4.sub.free hz) .nil
      refine ⟨_, rfl, _, rfl, fun h1 => ?_, fun h1 => ⟨_, rfl, fun h2 => ?_, fun h2 => ⟨_, rfl, fun h3 => ?_, fun h3 => ?_⟩⟩⟩
      · cases x with
        | code c =>
          obtain rfl := dw2.strE
          refine ⟨_, rfl, _, rfl, p, C, dx3, _, _, rfl, hp3, T.cl, T.nB, lk_bound, _, rfl, db, _, rfl, DPut.k (k := Sum.inl key) hb kbl, ?_⟩
          refine ⟨_, rfl, by show 2 ≤ sizeLine; decide, fun z hz => ?_⟩
          have gz : Gr G2 _ (upd G2 z (.tup [.str "press", .str c])) (upd _ z (.tup [.str "press", .str c])) := (Gr.refl gput.sub).fr hz
          exact k _ (upd G2 z _) _ (gput.trans (GrP.of gz)) (put.gr gz) (newT (gput.sub.free hz) (.two (.str _) (.str _)))
        | lay j => exact absurd h1 (by show ¬ (("layer" : PySem.Str) = "code"); decide +kernel)
        | lock j => exact absurd h1 (by show ¬ (("lock" : PySem.Str) = "code"); decide +kernel)
        | once j => exact absurd h1 (by show ¬ (("once" : PySem.Str) = "code"); decide +kernel)
      · cases x with
        | code c => exact absurd rfl h1
        | lay j =>
          refine ⟨_, rfl, _, rfl, p, C, dx3, _, _, rfl, hp3, T.cl, T.nB, lk_bound, _, rfl, db, _, rfl, DPut.k (k := Sum.inl key) hb kbl, ?_⟩
          exact fin _ _ gput put rfl
        | lock j => exact absurd h2 (by show ¬ (("lock" : PySem.Str) = "layer"); decide +kernel)
        | once j => exact absurd h2 (by show ¬ (("once" : PySem.Str) = "layer"); decide +kernel)
      · cases x with
        | code c => exact absurd rfl h1
        | lay j => exact absurd rfl h2
        | lock j =>
          obtain rfl := dw2.intE
          refine ⟨_, rfl, _, rfl, p, C, dx3, _, _, rfl, hp3, T.cl, T.nK, lk_locked, dl, _, rfl, DGet.k (k := Sum.inl j) hl3, _, rfl, ?_⟩
          show if (valV (lkK st.locked) (Sum.inl j)).isSome = true then _ else _
          rw [valV_lk]
          have upL : ∀ (l' : List Int), Pl.toggle { st with wait := none } j = { st with wait := none, locked := l' } → GrP (own3 p dl db) G H G2 (upd H3 dl (.dK (lkK l'))) ∧ PlAt C G2 (upd H3 dl (.dK (lkK l'))) p dl db L (Pl.toggle { st with wait := none } j) := fun l' el => by
            refine ⟨gP.set ol hP3.gl (by rw [hl3]; exact nofun), ?_⟩
            rw [el]
            refine ⟨⟨la3, dx3, ?_, hla3⟩, upd_same, ⟨kb, ?_, hkb⟩, hP3.nd, hP3.ne, hP3.gp, hP3.gl, hP3.gb⟩
            · rw [upd_ne (ne_of hp3 hl3 (by intro z; cases z))]; exact hp3
            · rw [upd_ne hP3.ne.symm]; exact hb
          refine iteB (fun hc1 => ?_) fun hc1 => ?_
          · refine ⟨_, rfl, p, C, dx3, _, _, rfl, hp3, T.cl, T.nK, lk_locked, _, rfl, dl, _, Sum.inl j, rfl, hl3, rfl, by rw [valV_lk]; exact hc1, ?_⟩
            obtain ⟨g4, p4⟩ := upL (st.locked.filter (· ≠ j)) (by unfold Pl.toggle; rw [if_pos hc1])
            rw [lkK_drop]
            exact fin _ _ g4 p4 rfl
          · refine ⟨_, rfl, p, C, dx3, _, _, rfl, hp3, T.cl, T.nK, lk_locked, _, rfl, dl, _, rfl, DPut.k (k := Sum.inl j) hl3 lkl, ?_⟩
            obtain ⟨g4, p4⟩ := upL (st.locked ++ [j]) (by unfold Pl.toggle; rw [if_neg (by rw [hc1]; exact nofun)])
            rw [lkK_put hc1]
            exact fin _ _ g4 p4 rfl
        | once j => exact absurd h3 (by show ¬ (("once" : PySem.Str) = "lock"); decide +kernel)
      · cases x with
        | code c => exact absurd rfl h1
        | lay j => exact absurd rfl h2
        | lock j => exact absurd rfl h3
        | once j =>
          obtain rfl := dw2.intE
          refine ⟨_, rfl, _, rfl, p, C, dx3, _, rfl, hp3, T.cl, T.nW, (by show 4 < 1000; decide), ?_⟩
          rw [put_wait]
          refine fin _ { st with wait := some j } (gP.set o1 hP3.gp (by rw [hp3]; exact nofun)) ⟨⟨la3, dx3, upd_same, hla3⟩, ?_, ⟨kb, ?_, hkb⟩, hP3.nd, hP3.ne, hP3.gp, hP3.gl, hP3.gb⟩ rfl
          · rw [upd_ne (ne_of hl3 hp3 (by intro z; cases z))]; exact hl3
          · rw [upd_ne (ne_of hb hp3 (by intro z; cases z))]; exact hb
abbrev sPlayer_up : Stmt := inClass (top 31) 7
abbrev NPlayer_up : List PySem.Str := ["self", "key", "word", "value"]
abbrev PPlayer_up : List PySem.Str := ["self", "key"]
theorem scPlayer_up : FnScope NPlayer_up PPlayer_up (defScope sPlayer_up) := ⟨rfl, rfl, rfl, by decide +kernel, rfl, by decide +kernel, by decide +kernel⟩
theorem ok_Player_up {C f : Addr} {fd : FuncData} (F : Fun K "up" "Player.up" sPlayer_up f fd) (B : Bt mg) (T : PlC K C) : FnOk P w K mg base CX0 1 f fd PPlayer_up (sp_Player_up C) := by
  refine F.ok scPlayer_up (fun vs H Q E h => ?_) (fun cdv A outer s H vs Q E hr h => ?_)
  · obtain ⟨G, p, dl, db, L, st, k, rfl, _⟩ := h
    rfl
  · obtain ⟨G, p, dl, db, L, st, key, rfl, sG, hP, k⟩ := h
    have nd := scPlayer_up.nd
    have hu := hu_of hr
    refine ⟨_, (pss_cons (ps_if (pt_cmp (pc_dnotin hu (pv 1) (fldK (K := K) (pv 0) rfl))) (pss_one (ps_ret (pe_tup pa_nil))) pss_nil)
    (pss_cons (ps_asg (pe_dpop1 (fldK (K := K) (pv 0) rfl) (pv 1) (⟨rfl, rfl, rfl, rfl⟩)) (pg_tupq (n := 2) rfl (pgs_cons (pg_name (i := 2) nd rfl (Or.inl rfl)) (pgs_cons (pg_name (i := 3) nd rfl (Or.inl rfl)) pgs_nil))))
    (pss_one (ps_ret (pe_ifExp (pt_cmpR op_eq (pv 2) pe_str (by first | exact nomark _ | rfl)) (pe_tup (pa_cons pe_str (pa_cons (pv 3) pa_nil))) (pe_tup pa_nil)))))), ?_⟩
    obtain ⟨la, dx, hp, hla⟩ := id hP.ob
    obtain ⟨kb, hb, hkb⟩ := id hP.bd
    refine ⟨_, rfl, _, rfl, p, C, dx, _, _, rfl, hp, T.cl, T.nB, lk_bound, db, _, rfl, DGet.k (k := Sum.inl key) hb, _, rfl, ?_⟩
    have drop : PlAt C G (upd H db (.dK (dropK kb (Sum.inl key)))) p dl db L (mUp st key).2 := by
      refine ⟨⟨la, dx, ?_, hla⟩, ?_, ⟨_, upd_same, hkb.drop⟩, filter_keys hP.nd, hP.ne, hP.gp, hP.gl, hP.gb⟩
      · rw [upd_ne (ne_of hp hb (by intro z; cases z))]; exact hp
      · rw [upd_ne hP.ne]; exact hP.lk
    have gdrop : GrP (own3 p dl db) G H G (upd H db (.dK (dropK kb (Sum.inl key)))) := (GrP.of (Gr.refl sG)).set (.inr (.inr rfl)) hP.gb (by rw [hb]; exact nofun)
    rcases hkb.val (k := key) with ⟨e1, e2⟩ | ⟨x, v, e1, e2, dv⟩
    · rw [e2]
      refine ⟨Nat.zero_le _, fun z hz => ?_⟩
      have gz : Gr G H (upd G z (.tup [])) (upd H z (.tup [])) := (Gr.refl sG).fr hz
      have est : (mUp st key).2 = st := by
        show { st with bound := st.bound.filter (·.1 ≠ key) } = st
        have : st.bound.filter (·.1 ≠ key) = st.bound := by
          rw [List.filter_eq_self]
          intro b hb'
          have : b.1 ≠ key := by
            intro z
            have := List.lookup_eq_none_iff.mp e1 b hb'
            simp [z] at this
          simpa using this
        rw [this]
      refine k _ (upd G z (.tup [])) _ (GrP.of gz) (by rw [est]; exact hP.gr gz) ?_
      show Dq _ _ (outD (outOf (st.bound.lookup key)))
      rw [e1]
      exact newT (sG.free hz) .nil
    · rw [e2]
      obtain ⟨q, ws, rfl, hq, t⟩ := (show Dq G v (.tuple [.str x.word, x.val]) from dv).tupE
      obtain ⟨w1, w2, rfl, d1, d2⟩ := t.twoE
      obtain rfl := d1.strE
      refine ⟨_, rfl, p, C, dx, _, _, rfl, hp, T.cl, T.nB, lk_bound, db, rfl, .inl ⟨_, .inl hb⟩, _, rfl, kb, Sum.inl key, _, hb, rfl, e2, ?_⟩
      refine ⟨q, _, rfl, gdrop.sub _ _ hq, rfl, _, _, rfl, _, _, rfl, rfl, ?_⟩
      refine ⟨_, rfl, rfl, _, rfl, ?_⟩
      have fin : ∀ (zs : List V) (ds : List PyData), DqAll G zs ds → outD (outOf (some x)) = .tuple ds → ∀ z, (upd H db (.dK (dropK kb (Sum.inl key)))) z = none → Q (.ref z) (upd (upd H db (.dK (dropK kb (Sum.inl key)))) z (.tup zs)) := fun zs ds hzs ez z hz => by
        have gz : Gr G _ (upd G z (.tup zs)) (upd (upd H db (.dK (dropK kb (Sum.inl key)))) z (.tup zs)) := (Gr.refl gdrop.sub).fr hz
        refine k _ (upd G z (.tup zs)) _ (gdrop.trans (GrP.of gz)) (drop.gr gz) ?_
        show Dq _ _ (outD (outOf (st.bound.lookup key)))
        rw [e1, ez]
        exact newT (gdrop.sub.free hz) hzs
      cases x with
      | code c =>
        obtain rfl := d2.strE
        exact ⟨_, rfl, by show 2 ≤ sizeLine; decide, fin [.str "release", .str c] [.str "release", .str c] (.two (.str _) (.str _)) rfl⟩
      | lay j => exact ⟨Nat.zero_le _, fin [] [] .nil rfl⟩
      | lock j => exact ⟨Nat.zero_le _, fin [] [] .nil rfl⟩
      | once j => exact ⟨Nat.zero_le _, fin [] [] .nil rfl⟩
end
end HT7
end partW8
section partW9
set_option Elab.async false
set_option linter.all false
set_option maxRecDepth 100000
namespace HT7
open PySem PySem.Spec PyProof.Rows L2 HT5 HT6
def natV : Option Nat → V
  | none => .non
  | some n => .int (n : Nat)
theorem decGo_lt {own : Int} {r : PySem.Str} : ∀ {S : List Stp} {later : List Int} {place q : Nat}, decGo own r later place S = some q → place ≤ q ∧ q < place + S.length
  | [], later, place, q, h => by cases h
  | (k, dn) :: rest, later, place, q, h => by
    unfold decGo at h
    by_cases h1 : k = own
    · rw [if_pos h1] at h
      cases h
      exact ⟨Nat.le_refl _, by simp⟩
    · rw [if_neg h1] at h
      by_cases h2 : (r = "other" ∧ dn = true) ∨ (r = "within" ∧ dn = false ∧ k ∈ later)
      · rw [if_pos h2] at h
        cases h
        exact ⟨Nat.le_refl _, by simp⟩
      · rw [if_neg h2] at h
        obtain ⟨a, b⟩ := decGo_lt h
        exact ⟨by omega, by simp; omega⟩
theorem decider_lt {S : List Stp} {n : Nat} {r : PySem.Str} {q : Nat} (h : mDecider S n r = some q) : n < q ∧ q < S.length := by
  obtain ⟨a, b⟩ := decGo_lt h
  simp at b
  omega
theorem keysAre_cons {kvs : List (Key × V)} {dl : List Int} (h : KeysAre kvs dl) (k : Int) (v : V) : KeysAre (putK kvs (Sum.inl k) v) (k :: dl) := fun j => by
  rw [keysAre_put h k v j]
  exact decide_eq_decide.mpr (by simp [or_comm])
theorem ev_get {R : List Ev} {n : Nat} (h : n < R.length) : R[n]? = some (R[n]'h) ∧ keyAt (R.map Ev.stp) n = (R[n]'h).key ∧ tickAt R n = (R[n]'h).tick := by
  refine ⟨List.getElem?_eq_getElem h, ?_, ?_⟩
  · unfold keyAt
    simp [h, Ev.stp]
  · unfold tickAt
    simp [h]
def sp_decider_of : Sp := fun vs H Q _ => ∃ (v : V) (R : List Ev) (n : Nat) (r : PySem.Str), vs = [v, .int (n : Nat), .str r] ∧ Dq H v (recD R) ∧ n < R.length ∧ R.length ≤ 400 ∧ ∀ H', Same H H' → Q (natV (mDecider (R.map Ev.stp) n r)) H'
def sp_sure_event : Sp := fun vs H Q _ => ∃ (v u : V) (R : List Ev) (n : Nat) (c : PySem.Str) (h : Wt) (t : Int) (r : PySem.Str), vs = [v, .int (n : Nat), u] ∧ Dq H v (recD R) ∧ Dq H u (Ac.dual c h t r).d ∧ n < R.length ∧ R.length ≤ 400 ∧ ∀ H', Same H H' → Q (natV (mSure R n t r)) H'
def mDecide (R : List Ev) (n : Nat) (a : Ac) : Option Bool := if a.isDual then some (mTapped R n a) else none
def sp_decided : Sp := fun vs H Q _ => ∃ (v u : V) (R : List Ev) (n : Nat) (a : Ac), vs = [v, .int (n : Nat), u] ∧ Dq H v (recD R) ∧ Dq H u a.d ∧ n < R.length ∧ R.length ≤ 400 ∧ ∀ H', Same H H' → Q (dV (mDecide R n a)) H'
def sp_press_bound : Sp := fun vs H Q _ => ∃ (G : Hp) (b : Bool) (n p : Nat) (t : Int), vs = [.str (tapS b), .int (n : Nat), .int (p : Nat), .int t] ∧ Same G H ∧ ∀ v G' H', Gr G H G' H' → Dq G' v (bdD (pressBd b n p t)) → Q v H'
theorem decided_tap (R : List Ev) (n : Nat) (a : Ac) : isTap (mDecide R n a) = mTapped R n a := by
  unfold mDecide
  cases a with
  | dual c h t r => show (some (mTapped R n (.dual c h t r)) == some true) = _; cases mTapped R n (.dual c h t r) <;> rfl
  | non => rfl
  | thr => rfl
  | w x => rfl
section
variable {P : Program} {w : World} {K : PySem.W.Frag} {mg : Str → Option Value} {base : Heap}
abbrev sdecider_of : Stmt := top 32
abbrev Ndecider_of : List PySem.Str := ["record", "number", "rule", "own", "later", "place", "tick", "key", "way"]
abbrev Pdecider_of : List PySem.Str := ["record", "number", "rule"]
theorem scdecider_of : FnScope Ndecider_of Pdecider_of (defScope sdecider_of) := ⟨rfl, rfl, rfl, by decide +kernel, rfl, by decide +kernel, by decide +kernel⟩
theorem ok_decider_of {f : Addr} {fd : FuncData} (F : Fun K "decider_of" "decider_of" sdecider_of f fd) (B : Bt mg) : FnOk P w K mg base CX0 1 f fd Pdecider_of sp_decider_of := by
  refine F.ok scdecider_of (fun vs H Q E h => ?_) (fun cdv A outer s H vs Q E hr h => ?_)
  · obtain ⟨v, R, n, r, rfl, _⟩ := h
    rfl
  · obtain ⟨v, R, n, r, rfl, hv, hn, hl, k⟩ := h
    have nd := scdecider_of.nd
    have hu := hu_of hr
    obtain ⟨a, xs, rfl, ha, t⟩ := Dq.lstE hv
    have hxl : xs.length = R.length := by rw [t.length, List.length_map]
    obtain ⟨er, ek, _⟩ := ev_get hn
    obtain ⟨p, hx, hp⟩ := ev_at t er
    refine ⟨_, (pss_cons (ps_par (i := 3) (j := 4) (by rfl) nd rfl rfl (by decide) rfl rfl (pa_cons (pe_ix ixtq (pe_ix ixlq (pv 0) (pv 1) (fun _ _ => rfl)) pe_int (fun _ _ => rfl)) (pa_cons pe_dnewK pa_nil)) (by rfl))
    (pss_cons (ps_for PassesOwn.never rfl (pi_range2 rfl B.range (pa_cons (pe_op op_add (pv 1) pe_int) (pa_cons (pe_callB lenLq (by rfl) B.len (by decide +kernel) (pa_cons (pv 0) pa_nil)) pa_nil))) (pg_name (i := 5) nd rfl (Or.inl rfl)) (pss_cons (ps_asg (pe_ix ixlq (pv 0) (pv 5) (fun _ _ => rfl)) (pg_tupq (n := 3) rfl (pgs_cons (pg_name (i := 6) nd rfl (Or.inl rfl)) (pgs_cons (pg_name (i := 7) nd rfl (Or.inl rfl)) (pgs_cons (pg_name (i := 8) nd rfl (Or.inl rfl)) pgs_nil)))))
    (pss_cons (ps_if (pt_cmpR op_eq (pv 7) (pv 3) (by first | exact nomark _ | rfl)) (pss_one (ps_ret (pv 5))) pss_nil)
    (pss_cons (ps_if (PW.pt (pw_or (PW.pt (pw_and (pt_cmpR op_eq (pv 2) pe_str (by first | exact nomark _ | rfl)) (pw_and1 (pt_cmpR op_eq (pv 8) pe_str (by first | exact nomark _ | rfl))))) (pw_or1 (PW.pt (pw_and (pt_cmpR op_eq (pv 2) pe_str (by first | exact nomark _ | rfl)) (pw_and (pt_cmpR op_eq (pv 8) pe_str (by first | exact nomark _ | rfl)) (pw_and1 (pt_cmp (pc_din hu (pv 7) (pv 4)))))))))) (pss_one (ps_ret (pv 5))) pss_nil)
    (pss_one (ps_if (pt_cmpR op_eq (pv 8) pe_str (by first | exact nomark _ | rfl)) (pss_one (ps_dput hu (pv 4) (pv 7) pe_bl rfl)) pss_nil))))))
    (pss_one (ps_ret pe_non)))), ?_⟩
    refine ⟨_, rfl, _, rfl, a, xs, _, V.ref p, rfl, rfl, ha, atI_nat hx, p, _, _, _, rfl, rfl, hp, atI_nat (j := 1) rfl, fun d hd => ⟨_, _, rfl, ?_⟩⟩
    have ha1 : ∀ o, (upd H d o) a = some (.lst xs) := fun o => by rw [upd_ne (ne_of_none ha hd)]; exact ha
    refine ⟨_, rfl, _, _, rfl, rfl, _, rfl, a, xs, rfl, ha1 _, (n : Int) + 1, xs.length, rfl, ⟨by omega, by omega, by omega, by omega⟩, ?_⟩
    refine for_it (walk_range (lo := (n : Int) + 1) (n := ((xs.length : Int) - ((n : Int) + 1)).toNat)) (fun i σ H' => ∃ v5 v6 v7 v8 kvs later, σ = [some (.ref a), some (.int (n : Nat)), some (.str r), some (.int (R[n]'hn).key), some (.ref d), v5, v6, v7, v8] ∧ Same H H' ∧ H' d = some (.dK kvs) ∧ KeysAre kvs later ∧ kvs.length ≤ i ∧ decGo (R[n]'hn).key r later (n + 1 + i) ((R.map Ev.stp).drop (n + 1 + i)) = mDecider (R.map Ev.stp) n r)
      ⟨none, none, none, none, [], [], rfl, same_new hd, upd_same, fun _ => rfl, Nat.le_refl _, by rw [← ek]; rfl⟩ (fun _ _ _ _ _ => trivial) (fun i x σ H1 H2 hi h y => ?_) fun σ H1 h => ?_
    · obtain ⟨v5, v6, v7, v8, kvs, later, rfl, s1, hd1, hk, hkl, hdec⟩ := h
      obtain ⟨rfl, hx0⟩ := y
      have hi2 : n + 1 + i < R.length := by omega
      obtain rfl : x = V.int ((n + 1 + i : Nat) : Int) := hx0.trans (congrArg V.int (by omega))
      obtain ⟨er2, _, _⟩ := ev_get hi2
      obtain ⟨p2, hx2, hp2⟩ := ev_at t er2
      have hp3 := s1 _ _ hp2
      have edr : (R.map Ev.stp).drop (n + 1 + i) = (R[n + 1 + i]'hi2).stp :: (R.map Ev.stp).drop (n + 1 + (i + 1)) := by
        rw [List.drop_eq_getElem_cons (by rw [List.length_map]; exact hi2)]
        simp
        rfl
      rw [edr] at hdec
      generalize hev : R[n + 1 + i]'hi2 = e at hdec hp3
      refine ⟨_, rfl, _, rfl, a, xs, _, V.ref p2, rfl, rfl, s1 _ _ ha, atI_nat hx2, p2, _, rfl, hp3, rfl, _, _, rfl, _, _, rfl, _, _, rfl, rfl, ?_⟩
      refine ⟨_, rfl, _, rfl, rfl, _, rfl, ?_⟩
      unfold decGo at hdec
      refine iteB (fun h1 => ?_) fun h1 => ?_
      · have h1' : e.key = (R[n]'hn).key := by simpa using h1
        rw [if_pos h1'] at hdec
        refine ⟨_, rfl, ?_⟩
        have := k _ s1
        rw [← hdec] at this
        exact this
      have h1' : ¬ e.key = (R[n]'hn).key := by simpa using h1
      rw [if_neg h1'] at hdec
      have next : ∀ (H3 : Hp) (kvs' : List (Key × V)) (later' : List Int), Same H H3 → H3 d = some (.dK kvs') → KeysAre kvs' later' → kvs'.length ≤ i + 1 → decGo (R[n]'hn).key r later' (n + 1 + i + 1) ((R.map Ev.stp).drop (n + 1 + (i + 1))) = mDecider (R.map Ev.stp) n r → ∃ v5 v6 v7 v8 kvs later, [some (V.ref a), some (V.int (n : Nat)), some (V.str r), some (V.int (R[n]'hn).key), some (V.ref d), some (V.int ((n + 1 + i : Nat) : Int)), some (V.int e.tick), some (V.int e.key), some (V.str (wayS e.dn))] = [some (.ref a), some (.int (n : Nat)), some (.str r), some (.int (R[n]'hn).key), some (.ref d), v5, v6, v7, v8] ∧ Same H H3 ∧ H3 d = some (.dK kvs) ∧ KeysAre kvs later ∧ kvs.length ≤ i + 1 ∧ decGo (R[n]'hn).key r later (n + 1 + (i + 1)) ((R.map Ev.stp).drop (n + 1 + (i + 1))) = mDecider (R.map Ev.stp) n r := fun H3 kvs' later' a1 a2 a3 a4 a5 => ⟨_, _, _, _, kvs', later', rfl, a1, a2, a3, a4, a5⟩
      have k' : ∀ H', Same H H' → mDecider (R.map Ev.stp) n r = some (n + 1 + i) → Q (.int ((n + 1 + i : Nat) : Int)) H' := fun H' s e => by
        have := k _ s
        rw [e] at this
        exact this
      by_cases hro : r = "other"
      · subst hro
        refine ⟨_, rfl, rfl, true, rfl, ?_⟩
        refine ⟨_, rfl, rfl, _, rfl, ?_⟩
        cases hdn : e.dn with
        | true =>
          rw [hdn] at hdec
          rw [if_pos (.inl ⟨rfl, rfl⟩)] at hdec
          exact ⟨_, rfl, k' _ s1 hdec.symm⟩
        | false =>
          rw [hdn] at hdec
          rw [if_neg (by rintro (⟨_, z⟩ | ⟨z, _⟩); cases z; exact absurd z (by decide +kernel))] at hdec
          refine ⟨_, rfl, rfl, false, rfl, ?_⟩
          refine ⟨_, rfl, rfl, false, rfl, ?_⟩
          have z := next H2 kvs later s1 hd1 hk (by omega) hdec
          rw [hdn] at z
          exact z
      · refine ⟨_, rfl, rfl, false, ?_, ?_⟩
        · show V.bl (decide (V.str r = V.str "other")) = _
          rw [decide_eq_false (fun z => hro (V.str.inj z))]
        by_cases hrw : r = "within"
        · subst hrw
          refine ⟨_, rfl, rfl, true, rfl, ?_⟩
          cases hdn : e.dn with
          | true =>
            rw [hdn] at hdec
            rw [if_neg (by rintro (⟨z, _⟩ | ⟨_, z, _⟩); exact hro z; cases z)] at hdec
            refine ⟨_, rfl, rfl, false, rfl, ?_⟩
            refine ⟨_, rfl, rfl, true, rfl, ?_⟩
            refine ⟨_, rfl, _, rfl, d, _, rfl, DPut.k (k := Sum.inl e.key) hd1 (small1000 (by omega)), ?_⟩
            have z := next (upd H2 d (.dK (putK kvs (Sum.inl e.key) (.bl true)))) _ (e.key :: later) (fun b o hb => by rw [upd_ne (ne_of_none hb hd)]; exact s1 _ _ hb) upd_same (keysAre_cons hk e.key _) (Nat.le_trans putK_lenle (by omega)) hdec
            rw [hdn] at z
            exact z
          | false =>
            rw [hdn] at hdec
            refine ⟨_, rfl, rfl, true, rfl, ?_⟩
            refine ⟨_, rfl, _, rfl, d, _, rfl, DGet.k (k := Sum.inl e.key) hd1, _, rfl, ?_⟩
            rw [hk e.key]
            by_cases hm : e.key ∈ later
            · rw [decide_eq_true hm]
              rw [if_pos (.inr ⟨rfl, rfl, hm⟩)] at hdec
              exact ⟨_, rfl, k' _ s1 hdec.symm⟩
            · rw [decide_eq_false hm]
              rw [if_neg (by rintro (⟨z, _⟩ | ⟨_, _, z⟩); exact hro z; exact hm z)] at hdec
              refine ⟨_, rfl, rfl, false, rfl, ?_⟩
              have z := next H2 kvs later s1 hd1 hk (by omega) hdec
              rw [hdn] at z
              exact z
        · refine ⟨_, rfl, rfl, false, ?_, ?_⟩
          · show V.bl (decide (V.str r = V.str "within")) = _
            rw [decide_eq_false (fun z => hrw (V.str.inj z))]
          rw [if_neg (by rintro (⟨z, _⟩ | ⟨z, _⟩); exact hro z; exact hrw z)] at hdec
          cases hdn : e.dn with
          | true =>
            rw [hdn] at hdec
            refine ⟨_, rfl, rfl, true, rfl, ?_⟩
            refine ⟨_, rfl, _, rfl, d, _, rfl, DPut.k (k := Sum.inl e.key) hd1 (small1000 (by omega)), ?_⟩
            have z := next (upd H2 d (.dK (putK kvs (Sum.inl e.key) (.bl true)))) _ (e.key :: later) (fun b o hb => by rw [upd_ne (ne_of_none hb hd)]; exact s1 _ _ hb) upd_same (keysAre_cons hk e.key _) (Nat.le_trans putK_lenle (by omega)) hdec
            rw [hdn] at z
            exact z
          | false =>
            rw [hdn] at hdec
            refine ⟨_, rfl, rfl, false, rfl, ?_⟩
            have z := next H2 kvs later s1 hd1 hk (by omega) hdec
            rw [hdn] at z
            exact z
    · obtain ⟨v5, v6, v7, v8, kvs, later, rfl, s1, hd1, hk, hkl, hdec⟩ := h
      have e1 : (R.map Ev.stp).drop (n + 1 + ((xs.length : Int) - ((n : Int) + 1)).toNat) = [] := by
        apply List.drop_eq_nil_of_le
        rw [List.length_map]
        omega
      rw [e1] at hdec
      have := k _ s1
      rw [← hdec] at this
      exact this
abbrev ssure_event : Stmt := top 33
abbrev Nsure_event : List PySem.Str := ["record", "number", "action", "place"]
abbrev Psure_event : List PySem.Str := ["record", "number", "action"]
theorem scsure_event : FnScope Nsure_event Psure_event (defScope ssure_event) := ⟨rfl, rfl, rfl, by decide +kernel, rfl, by decide +kernel, by decide +kernel⟩
theorem ok_sure_event {f : Addr} {fd : FuncData} (F : Fun K "sure_event" "sure_event" ssure_event f fd) (B : Bt mg) (c_decider_of : C8.Cal P w K mg base 1 "decider_of" sp_decider_of []) : FnOk P w K mg base CX0 2 f fd Psure_event sp_sure_event := by
  refine F.ok scsure_event (fun vs H Q E h => ?_) (fun cdv A outer s H vs Q E hr h => ?_)
  · obtain ⟨v, u, R, n, c, hh, t, r, rfl, _⟩ := h
    rfl
  · obtain ⟨v, u, R, n, c, hh, tm, r, rfl, hv, hu2, hn, hl, k⟩ := h
    have nd := scsure_event.nd
    obtain ⟨pu, us, rfl, hpu, tu⟩ := (show Dq H u (.tuple [.str "dual", .str c, hh.d, .int tm, .str r]) from hu2).tupE
    obtain ⟨v1, v2, v3, v4, v5, rfl, h1, h2, h3, h4, h5⟩ := tu.fiveE
    obtain rfl := h4.intE
    obtain rfl := h5.strE
    obtain ⟨a, xs, rfl, ha, t⟩ := Dq.lstE hv
    obtain ⟨er, ek, et⟩ := ev_get hn
    obtain ⟨p, hx, hp⟩ := ev_at t er
    refine ⟨_, (pss_cons (ps_set (i := 3) nd rfl (Or.inl rfl) (C8.pe_c c_decider_of hr (by decide) rfl (pa_cons (pv 0) (pa_cons (pv 1) (pa_cons (pe_ix ixtq (pv 2) pe_int (fun _ _ => rfl)) pa_nil)))))
    (pss_cons (ps_if (PW.pt (pw_or (pt_cmpR op_isN (pv 3) pe_non (by first | exact nomark _ | rfl)) (pw_or1 (pt_cmpR op_ge (pe_op op_sub (pe_ix ixtq (pe_ix ixlq (pv 0) (pv 3) (fun _ _ => rfl)) pe_int (fun _ _ => rfl)) (pe_ix ixtq (pe_ix ixlq (pv 0) (pv 1) (fun _ _ => rfl)) pe_int (fun _ _ => rfl))) (pe_ix ixtq (pv 2) pe_int (fun _ _ => rfl)) (by first | exact nomark _ | rfl))))) (pss_one (ps_ret pe_non)) pss_nil)
    (pss_one (ps_ret (pv 3))))), ?_⟩
    refine ⟨_, rfl, _, rfl, _, rfl, pu, _, _, _, rfl, rfl, hpu, atI_nat (j := 4) rfl, V.ref a, R, n, r, rfl, hv, hn, hl, fun H1 s1 => ?_⟩
    have k1 := k
    unfold mSure at k1
    cases hd : mDecider (R.map Ev.stp) n r with
    | none =>
      rw [hd] at k1
      exact ⟨_, rfl, rfl, true, rfl, k1 _ s1⟩
    | some q =>
      rw [hd] at k1
      obtain ⟨q1, q2⟩ := decider_lt hd
      rw [List.length_map] at q2
      obtain ⟨er2, ek2, et2⟩ := ev_get q2
      obtain ⟨p2, hx2, hp2⟩ := ev_at t er2
      refine ⟨_, rfl, rfl, false, rfl, ?_⟩
      refine ⟨_, rfl, _, rfl, a, xs, _, V.ref p2, rfl, rfl, s1 _ _ ha, atI_nat hx2, p2, _, _, _, rfl, rfl, s1 _ _ hp2, atI_nat (j := 0) rfl, ?_⟩
      refine ⟨_, rfl, _, rfl, a, xs, _, V.ref p, rfl, rfl, s1 _ _ ha, atI_nat hx, p, _, _, _, rfl, rfl, s1 _ _ hp, atI_nat (j := 0) rfl, ?_⟩
      refine ⟨_, _, rfl, rfl, _, rfl, pu, _, _, _, rfl, rfl, s1 _ _ hpu, atI_nat (j := 3) rfl, _, _, rfl, rfl, _, rfl, ?_⟩
      have e3 : (if tickAt R q - tickAt R n ≥ tm then (none : Option Nat) else some q) = if tm ≤ (R[q]'q2).tick - (R[n]'hn).tick then none else some q := by rw [et, et2]
      dsimp only at k1
      rw [e3] at k1
      by_cases h : tm ≤ (R[q]'q2).tick - (R[n]'hn).tick
      · rw [if_pos h] at k1
        rw [decide_eq_true h]
        exact k1 _ s1
      · rw [if_neg h] at k1
        rw [decide_eq_false h]
        exact ⟨_, rfl, k1 _ s1⟩
abbrev sdecided : Stmt := top 34
abbrev Ndecided : List PySem.Str := ["record", "number", "action", "place"]
abbrev Pdecided : List PySem.Str := ["record", "number", "action"]
theorem scdecided : FnScope Ndecided Pdecided (defScope sdecided) := ⟨rfl, rfl, rfl, by decide +kernel, rfl, by decide +kernel, by decide +kernel⟩
theorem ok_decided {f : Addr} {fd : FuncData} (F : Fun K "decided" "decided" sdecided f fd) (B : Bt mg) (c_is_dual : C8.Cal P w K mg base 1 "is_dual" sp_is_dual []) (c_sure_event : C8.Cal P w K mg base 2 "sure_event" sp_sure_event []) : FnOk P w K mg base CX0 3 f fd Pdecided sp_decided := by
  refine F.ok scdecided (fun vs H Q E h => ?_) (fun cdv A outer s H vs Q E hr h => ?_)
  · obtain ⟨v, u, R, n, a, rfl, _⟩ := h
    rfl
  · obtain ⟨v, u, R, n, ac, rfl, hv, hu2, hn, hl, k⟩ := h
    have nd := scdecided.nd
    obtain ⟨a, xs, rfl, ha, t⟩ := Dq.lstE hv
    obtain ⟨er, ek, et⟩ := ev_get hn
    obtain ⟨p, hx, hp⟩ := ev_at t er
    refine ⟨_, (pss_cons (ps_if (pt_not (pt_val (C8.pe_c c_is_dual hr (by decide) rfl (pa_cons (pv 2) pa_nil)))) (pss_one (ps_ret pe_non)) pss_nil)
    (pss_cons (ps_set (i := 3) nd rfl (Or.inl rfl) (C8.pe_c c_sure_event hr (by decide) rfl (pa_cons (pv 0) (pa_cons (pv 1) (pa_cons (pv 2) pa_nil)))))
    (pss_one (ps_ret (pe_ifExp (PW.pt (pw_and (pt_cmpR op_notN (pv 3) pe_non (by first | exact nomark _ | rfl)) (pw_and1 (pt_cmpR op_eq (pe_ix ixtq (pe_ix ixlq (pv 0) (pv 3) (fun _ _ => rfl)) pe_int (fun _ _ => rfl)) (pe_ix ixtq (pe_ix ixlq (pv 0) (pv 1) (fun _ _ => rfl)) pe_int (fun _ _ => rfl)) (by first | exact nomark _ | rfl))))) pe_str pe_str))))), ?_⟩
    refine ⟨_, rfl, u, ac, rfl, hu2, _, rfl, ?_⟩
    cases ac with
    | non => exact k _ (Same.refl H)
    | thr => exact k _ (Same.refl H)
    | w x => exact k _ (Same.refl H)
    | dual c hh tm r =>
      refine ⟨_, rfl, _, rfl, _, rfl, V.ref a, u, R, n, c, hh, tm, r, rfl, hv, hu2, hn, hl, fun H1 s1 => ?_⟩
      have k1 : ∀ H', Same H H' → Q (dV (some (mTapped R n (.dual c hh tm r)))) H' := k
      unfold mTapped at k1
      cases hs : mSure R n tm r with
      | none =>
        simp only [hs] at k1
        exact ⟨_, rfl, rfl, false, rfl, k1 _ s1⟩
      | some q =>
        simp only [hs] at k1
        have q2 : q < R.length := by
          unfold mSure at hs
          cases hd : mDecider (R.map Ev.stp) n r with
          | none => rw [hd] at hs; cases hs
          | some q' =>
            simp only [hd] at hs
            split at hs
            · cases hs
            · cases hs
              have := (decider_lt hd).2
              rw [List.length_map] at this
              exact this
        obtain ⟨er2, ek2, et2⟩ := ev_get q2
        obtain ⟨p2, hx2, hp2⟩ := ev_at t er2
        refine ⟨_, rfl, rfl, true, rfl, ?_⟩
        refine ⟨_, rfl, _, rfl, a, xs, _, V.ref p2, rfl, rfl, s1 _ _ ha, atI_nat hx2, p2, _, _, _, rfl, rfl, s1 _ _ hp2, atI_nat (j := 1) rfl, ?_⟩
        refine ⟨_, rfl, _, rfl, a, xs, _, V.ref p, rfl, rfl, s1 _ _ ha, atI_nat hx, p, _, _, _, rfl, rfl, s1 _ _ hp, atI_nat (j := 1) rfl, rfl, _, rfl, ?_⟩
        rw [ek, ek2] at k1
        by_cases h : (R[q]'q2).key = (R[n]'hn).key
        · rw [decide_eq_true (congrArg V.int h)]
          have := k1 _ s1
          rw [h, beq_self_eq_true] at this
          exact this
        · rw [decide_eq_false (fun z => h (V.int.inj z))]
          have := k1 _ s1
          rw [beq_false_of_ne h] at this
          exact this
abbrev spress_bound : Stmt := top 41
abbrev Npress_bound : List PySem.Str := ["word", "down", "up", "time"]
abbrev Ppress_bound : List PySem.Str := ["word", "down", "up", "time"]
theorem scpress_bound : FnScope Npress_bound Ppress_bound (defScope spress_bound) := ⟨rfl, rfl, rfl, by decide +kernel, rfl, by decide +kernel, by decide +kernel⟩
theorem ok_press_bound {f : Addr} {fd : FuncData} (F : Fun K "press_bound" "press_bound" spress_bound f fd) (T : Tc mg K) : FnOk P w K mg base CX0 1 f fd Ppress_bound sp_press_bound := by
  refine F.ok scpress_bound (fun vs H Q E h => ?_) (fun cdv A outer s H vs Q E hr h => ?_)
  · obtain ⟨G, b, n, p, t, rfl, _⟩ := h
    rfl
  · obtain ⟨G, b, n, p, t, rfl, sG, k⟩ := h
    have nd := scpress_bound.nd
    refine ⟨_, (pss_one (ps_ret (pe_ifExp (pt_cmpR op_eq (pv 0) (C8.pe_gc rfl T.TAP) (by first | exact nomark _ | rfl)) (pe_tup (pa_cons (pv 2) (pa_cons (pv 1) (pa_cons (pe_op op_sub pe_int (pv 3)) pa_nil)))) (pe_tup (pa_cons (pv 1) (pa_cons (pv 2) (pa_cons (pv 3) pa_nil))))))), ?_⟩
    cases b with
    | true =>
      refine ⟨_, rfl, rfl, true, rfl, _, rfl, _, rfl, _, rfl, _, _, rfl, rfl, by show 3 ≤ sizeLine; decide, fun z hz => ?_⟩
      exact k _ (upd G z _) _ ((Gr.refl sG).fr hz) (newT (sG.free hz) (.three (.int _) (.int _) (.int _)))
    | false =>
      refine ⟨_, rfl, rfl, false, rfl, _, rfl, _, rfl, _, rfl, by show 3 ≤ sizeLine; decide, fun z hz => ?_⟩
      exact k _ (upd G z _) _ ((Gr.refl sG).fr hz) (newT (sG.free hz) (.three (.int _) (.int _) (.int _)))
end
end HT7
end partW9
section partW10
set_option Elab.async false
set_option linter.all false
set_option maxRecDepth 100000
namespace HT7
open PySem PySem.Spec PyProof.Rows L2 HT5 HT6
def takenD : Option (Nat × Ac) → PyData
  | none => .none
  | some t => .tuple [.int (t.1 : Nat), t.2.d]
def stepD (s : Option (Nat × Ac) × Out) : PyData := .tuple [takenD s.1, outD s.2]
/-! what a step does to the player's bounds -/
theorem putB_mem {k : Int} {x : Wt} {b : List (Int × Wt)} {q : Int × Wt} (h : q ∈ putB k x b) : q.2 = x ∨ q ∈ b := by
  induction b with
  | nil =>
    simp [putB] at h
    exact .inl (by rw [h])
  | cons c r ih =>
    unfold putB at h
    split at h
    · rcases List.mem_cons.mp h with h | h
      · exact .inl (by rw [h])
      · exact .inr (List.mem_cons_of_mem _ h)
    · rcases List.mem_cons.mp h with h | h
      · exact .inr (by rw [h]; exact List.mem_cons_self)
      · exact (ih h).imp id (List.mem_cons_of_mem _)
theorem putB_len {k : Int} {x : Wt} {b : List (Int × Wt)} : (putB k x b).length ≤ b.length + 1 := by
  induction b with
  | nil => simp [putB]
  | cons c r ih =>
    unfold putB
    split
    · simp
    · simp; omega
theorem toggle_len (st : Pl) (j : Int) : (st.toggle j).locked.length ≤ st.locked.length + 1 := by
  unfold Pl.toggle
  dsimp only
  split
  · exact Nat.le_trans (List.length_filter_le _ _) (by omega)
  · simp
theorem down_ok {L : Lay} (hL : LayOk L) {st : Pl} {k : Int} {tap : Bool} (hk : 0 ≤ k ∧ k < mWide L) (hb : BdOk L st) : BdOk L (mDown L st k tap).2 ∧ (mDown L st k tap).2.size ≤ st.size + 1 := by
  obtain ⟨nthr, _, aok⟩ := look_ok hL st hk
  have aok2 := carried_ok aok tap
  unfold mDown
  rcases carried_cases nthr tap with e | ⟨x, e⟩
  · rw [e]
    exact ⟨hb, by show st.size ≤ _; omega⟩
  · rw [e] at aok2 ⊢
    have bind : ∀ y, AcOk 0 L.length (.w y) → BdOk L (Pl.bind { st with wait := none } k y) ∧ (Pl.bind { st with wait := none } k y).size ≤ st.size + 1 := fun y hy => by
      refine ⟨fun b hb' => ?_, ?_⟩
      · rcases putB_mem (show b ∈ putB k y st.bound from hb') with h | h
        · rw [h]; exact hy
        · exact hb b h
      · have := putB_len (k := k) (x := y) (b := st.bound)
        show st.locked.length + (putB k y st.bound).length ≤ st.locked.length + st.bound.length + 1
        omega
    cases x with
    | code c => exact bind _ aok2
    | lay j => exact bind _ aok2
    | lock j =>
      refine ⟨hb, ?_⟩
      have := toggle_len { st with wait := none } j
      show (Pl.toggle { st with wait := none } j).locked.length + st.bound.length ≤ st.locked.length + st.bound.length + 1
      have e2 : ({ st with wait := none } : Pl).locked.length = st.locked.length := rfl
      omega
    | once j => exact ⟨hb, by show st.locked.length + st.bound.length ≤ st.locked.length + st.bound.length + 1; omega⟩
theorem up_ok {L : Lay} {st : Pl} {k : Int} (hb : BdOk L st) : BdOk L (mUp st k).2 ∧ (mUp st k).2.size ≤ st.size := by
  refine ⟨fun b h => hb b (List.mem_filter.mp h).1, ?_⟩
  have := List.length_filter_le (fun q : Int × Wt => decide (q.1 ≠ k)) st.bound
  show st.locked.length + (st.bound.filter (·.1 ≠ k)).length ≤ st.locked.length + st.bound.length
  omega
def KeysOk (L : Lay) (R : List Ev) : Prop := ∀ e ∈ R, 0 ≤ e.key ∧ e.key < mWide L
def sp_steps_of : Sp := fun vs H Q _ => ∃ (G : Hp) (v u : V) (L : Lay) (R : List Ev), vs = [v, u] ∧ Same G H ∧ Dq G v (layD L) ∧ LayOk L ∧ Dq G u (recD R) ∧ KeysOk L R ∧ R.length ≤ 400 ∧
  ∀ q l pl G' H', Gr G H G' H' → G' q = some (.tup [.ref l, .ref pl]) → Dq G' (.ref l) (.list ((mSteps L R).map stepD)) → Q (.ref q) H'
def sp_played : Sp := fun vs H Q _ => ∃ (G : Hp) (v u : V) (L : Lay) (R : List Ev), vs = [v, u] ∧ Same G H ∧ Dq G v (layD L) ∧ LayOk L ∧ Dq G u (recD R) ∧ RecOk (mWide L) R ∧
  ∀ x G' H', Gr G H G' H' → Dq G' x (.list ((mPlayed L R).map outD)) → Q x H'
def sp_flat : Sp := fun vs H Q _ => ∃ (G : Hp) (v u : V) (L : Lay) (R : List Ev), vs = [v, u] ∧ Same G H ∧ Dq G v (layD L) ∧ LayOk L ∧ Dq G u (recD R) ∧ RecOk (mWide L) R ∧
  ∀ x G' H', Gr G H G' H' → Dq G' x (.list ((mFlat L R).map outD)) → Q x H'
/-! the outputs are plain data -/
def OutOk : Out → Prop
  | none => True
  | some (_, c) => CodeOk c
theorem fineOut {o : Out} (h : OutOk o) : Fine 1 (outD o) := by
  cases o with
  | none => intro y hy; cases hy
  | some q =>
    obtain ⟨b, c⟩ := q
    intro y hy
    have e : y = .str (if b then "press" else "release") ∨ y = .str c := by simpa [outD] using hy
    rcases e with rfl | rfl
    · show PyData.strOk _ = true
      cases b <;> decide +kernel
    · exact (fineWt (n := 1) (x := .code c) h) (.str c) (by simp [Wt.val])
theorem out_eq {o : Out} : outD o = .tuple [] ↔ o = none := by
  cases o with
  | none => simp [outD]
  | some q => obtain ⟨b, c⟩ := q; simp [outD]
theorem down_out {L : Lay} (hL : LayOk L) {st : Pl} {k : Int} {tap : Bool} (hk : 0 ≤ k ∧ k < mWide L) : OutOk (mDown L st k tap).1 := by
  obtain ⟨nthr, _, aok⟩ := look_ok hL st hk
  have aok2 := carried_ok aok tap
  unfold mDown
  rcases carried_cases nthr tap with e | ⟨x, e⟩
  · rw [e]; trivial
  · rw [e] at aok2 ⊢
    cases x with
    | code c => exact aok2
    | lay j => trivial
    | lock j => trivial
    | once j => trivial
theorem lookup_mem {b : List (Int × Wt)} {k : Int} {x : Wt} (h : b.lookup k = some x) : ∃ q ∈ b, q.2 = x := by
  induction b with
  | nil => cases h
  | cons c r ih =>
    rw [List.lookup_cons] at h
    split at h
    · cases h
      exact ⟨c, List.mem_cons_self, rfl⟩
    · obtain ⟨q, hq, e⟩ := ih h
      exact ⟨q, List.mem_cons_of_mem _ hq, e⟩
theorem up_out {L : Lay} {st : Pl} {k : Int} (hb : BdOk L st) : OutOk (mUp st k).1 := by
  show OutOk (outOf (st.bound.lookup k))
  cases e : st.bound.lookup k with
  | none => trivial
  | some x =>
    obtain ⟨q, hq, e2⟩ := lookup_mem e
    have := hb q hq
    rw [e2] at this
    cases x with
    | code c => exact this
    | lay j => trivial
    | lock j => trivial
    | once j => trivial
theorem steps_out {L : Lay} (hL : LayOk L) {R0 : List Ev} : ∀ {R : List Ev} {n : Nat} {st : Pl}, BdOk L st → KeysOk L R → ∀ s ∈ stepsGo L R0 n st R, OutOk s.2
  | [], n, st, hb, hk, s, hs => by cases hs
  | e :: r, n, st, hb, hk, s, hs => by
    have hke := hk e List.mem_cons_self
    have hkr : KeysOk L r := fun x hx => hk x (List.mem_cons_of_mem _ hx)
    have h1 : BdOk L (step1 L R0 n st e).2 ∧ OutOk (step1 L R0 n st e).1.2 := by
      unfold step1
      split
      · exact ⟨(down_ok hL hke hb).1, down_out hL hke⟩
      · exact ⟨(up_ok hb).1, up_out hb⟩
    rcases List.mem_cons.mp hs with h | h
    · rw [h]; exact h1.2
    · exact steps_out hL h1.1 hkr s h
section
variable {P : Program} {w : World} {K : PySem.W.Frag} {mg : Str → Option Value} {base : Heap}
abbrev ssteps_of : Stmt := top 35
abbrev Nsteps_of : List PySem.Str := ["layout", "record", "player", "found", "number", "tick", "key", "way", "taken"]
abbrev Psteps_of : List PySem.Str := ["layout", "record"]
theorem scsteps_of : FnScope Nsteps_of Psteps_of (defScope ssteps_of) := ⟨rfl, rfl, rfl, by decide +kernel, rfl, by decide +kernel, by decide +kernel⟩
theorem ok_steps_of {C f : Addr} {fd : FuncData} (F : Fun K "steps_of" "steps_of" ssteps_of f fd) (B : Bt mg) (m_Player : C8.Mak P w K mg base 1 "Player" C (sp_Player_init C) []) (m_Player_look : C8.Met P w K mg base 3 C "look" (sp_Player_look C) []) (m_Player_down : C8.Met P w K mg base 4 C "down" (sp_Player_down C) []) (m_Player_up : C8.Met P w K mg base 1 C "up" (sp_Player_up C) []) (c_decided : C8.Cal P w K mg base 3 "decided" sp_decided []) : FnOk P w K mg base CX0 5 f fd Psteps_of sp_steps_of := by
  refine F.ok scsteps_of (fun vs H Q E h => ?_) (fun cdv A outer s H vs Q E hr h => ?_)
  · obtain ⟨G, v, u, L, R, rfl, _⟩ := h
    rfl
  · obtain ⟨G, v, u, L, R, rfl, sG, hv, hL, hu2, hK, hl, k⟩ := h
    have nd := scsteps_of.nd
    obtain ⟨la, lxs, rfl, _, _⟩ := Dq.lstE hv
    obtain ⟨a, xs, rfl, ha, t⟩ := Dq.lstE hu2
    have hxl : xs.length = R.length := by rw [t.length, List.length_map]
    refine ⟨_, (pss_cons (ps_par (i := 2) (j := 3) (by rfl) nd rfl rfl (by decide) rfl rfl (pa_cons (C8.pe_mk m_Player hr (by decide) rfl (pa_cons (pv 0) pa_nil)) (pa_cons (pe_lst pa_nil) pa_nil)) (by rfl))
    (pss_cons (ps_for PassesOwn.never rfl (pi_enum (by rfl) B.enumerate (pa_cons (pv 1) pa_nil)) (pg_tupq (n := 2) rfl (pgs_cons (pg_name (i := 4) nd rfl (Or.inl rfl)) (pgs_cons (pg_tupq (n := 3) rfl (pgs_cons (pg_name (i := 5) nd rfl (Or.inl rfl)) (pgs_cons (pg_name (i := 6) nd rfl (Or.inl rfl)) (pgs_cons (pg_name (i := 7) nd rfl (Or.inl rfl)) pgs_nil)))) pgs_nil))) (pss_one (ps_if (pt_cmpR op_eq (pv 7) pe_str (by first | exact nomark _ | rfl)) (pss_cons (ps_set (i := 8) nd rfl (Or.inl rfl) (C8.pe_mt m_Player_look hr (by decide) (pv 2) (pa_cons (pv 6) pa_nil)))
    (pss_one (ps_expr (pe_bm PySem.F.plainAttrs_list PySem.F.slot_list_append PySem.F.type_list_append mt_append (pv 3) (pa_cons (pe_tup (pa_cons (pv 8) (pa_cons (C8.pe_mt m_Player_down hr (by decide) (pv 2) (pa_cons (pv 6) (pa_cons (C8.pe_c c_decided hr (by decide) rfl (pa_cons (pv 1) (pa_cons (pv 4) (pa_cons (pe_ix ixtq (pv 8) pe_int (fun _ _ => rfl)) pa_nil)))) pa_nil))) pa_nil))) pa_nil))))) (pss_one (ps_expr (pe_bm PySem.F.plainAttrs_list PySem.F.slot_list_append PySem.F.type_list_append mt_append (pv 3) (pa_cons (pe_tup (pa_cons pe_non (pa_cons (C8.pe_mt m_Player_up hr (by decide) (pv 2) (pa_cons (pv 6) pa_nil)) pa_nil))) pa_nil)))))))
    (pss_one (ps_ret (pe_tup (pa_cons (pv 3) (pa_cons (pv 2) pa_nil))))))), ?_⟩
    refine ⟨_, rfl, fun x dx' nx ndx nex => ?_⟩
    have s0 : Same H (upd (upd H dx' (.own x)) x (.ins C dx' [])) := fun b o e => by
      rw [upd_ne (ne_of_none e nx), upd_ne (ne_of_none e ndx)]; exact e
    refine ⟨G, x, dx', la, L, rfl, sG.trans s0, upd_same, sG.free nx, hv, fun H1 dl db kp hdl hdb D1 => ⟨rfl, ?_⟩⟩
    have s1 : Same H H1 := fun b o e => kp b o (ne_of_none e nx) (s0 b o e)
    have ndl : H dl = none := s0.free hdl
    have ndb : H db = none := s0.free hdb
    have own0 : ∀ a, own3 x dl db a → H a = none := by
      rintro a (rfl | rfl | rfl)
      · exact nx
      · exact ndl
      · exact ndb
    refine ⟨Nat.zero_le _, fun D hD => ⟨_, _, rfl, ?_⟩⟩
    have hDH : H D = none := s1.free hD
    have nD : ∀ a, own3 x dl db a → D ≠ a := fun a h z => by
      obtain ⟨o, ho⟩ := D1.some_of h
      rw [← z] at ho
      rw [hD] at ho
      cases ho
    have ginit : Gr G H G (upd H1 D (.lst [])) := ((Gr.refl sG).same s1).tmp hD
    refine ⟨_, rfl, a, xs, rfl, sqL (ginit.keep _ _ (sG _ _ ha)), ?_⟩
    refine for_it (walkE (K := K) (a := a) (xs := xs)) (fun i σ H' => ∃ v4 v5 v6 v7 v8 Gi st acc done, σ = [some (.ref la), some (.ref a), some (.ref x), some (.ref D), v4, v5, v6, v7, v8] ∧ Gr G H Gi H' ∧ PlAt C Gi H' x dl db L st ∧ H' D = some (.lst acc) ∧ Gi D = none ∧ DqAll Gi acc (done.map stepD) ∧ done.length ≤ i ∧ done ++ stepsGo L R i st (R.drop i) = mSteps L R ∧ st.size ≤ i ∧ BdOk L st)
      ⟨none, none, none, none, none, G, pl0, [], [], rfl, ginit, D1.gr ((Gr.refl (sG.trans s1)).tmp hD), upd_same, sG.free hDH, .nil, Nat.le_refl _, rfl, Nat.le_refl _, fun _ h => by cases h⟩ (fun i σ H' _ h => ?_) (fun i y σ H2 H3 hi h yy => ?_) fun σ H2 h => ?_
    · obtain ⟨_, _, _, _, _, _, _, _, _, _, g, _⟩ := h
      exact g.keep _ _ (sG _ _ ha)
    · obtain ⟨v4, v5, v6, v7, v8, Gi, st, acc, done, rfl, g, hP, hD2, gD, hacc, hdl', hdone, hsz, hbo⟩ := h
      obtain ⟨T, x1, y1, rfl, hT, rfl, e1, e2⟩ := yy
      cases e1
      obtain ⟨e, es, dv⟩ := getV_map t e2
      have hi2 : i < R.length := (List.getElem?_eq_some_iff.mp es).1
      obtain ⟨pe, rfl, hpe⟩ := ev_parts dv
      have edr : R.drop i = e :: R.drop (i + 1) := by
        rw [List.drop_eq_getElem_cons hi2, (List.getElem?_eq_some_iff.mp es).2]
      rw [edr] at hdone
      have hke := hK e (List.mem_of_getElem? es)
      have gT : Gr Gi H2 Gi (upd H2 T (.tup [.int (i : Nat), .ref pe])) := (Gr.refl g.sub).tmp hT
      have g2 : Gr G H Gi (upd H2 T (.tup [.int (i : Nat), .ref pe])) := g.trans gT
      have hP2 := hP.gr gT
      generalize hHT : upd H2 T (.tup [.int (i : Nat), .ref pe]) = HT at g2 hP2 gT ⊢
      have hTT : HT T = some (.tup [.int (i : Nat), .ref pe]) := by rw [← hHT]; exact upd_same
      refine ⟨T, _, rfl, hTT, rfl, _, _, rfl, _, _, rfl, ⟨pe, _, rfl, g2.keep _ _ (sG _ _ hpe), rfl, _, _, rfl, _, _, rfl, _, _, rfl, rfl, rfl, ?_⟩⟩
      refine ⟨_, rfl, rfl, _, rfl, ?_⟩
      obtain ⟨la4, dx4, hp4, _⟩ := id hP2.ob
      have step : ∀ (H5 : Hp) (G5 : Hp) (st' : Pl) (y : V) (s : Option (Nat × Ac) × Out) (c8 : Option V), GrP (own3 x dl db) Gi HT G5 H5 → PlAt C G5 H5 x dl db L st' → Dq G5 y (stepD s) → step1 L R i st e = (s, st') → st'.size ≤ i + 1 → BdOk L st' →
          ∃ l xs' y', V.ref D = .ref l ∧ [y] = [y'] ∧ H5 l = some (.lst xs') ∧ xs'.length < sizeLine ∧ ∃ v4 v5 v6 v7 v8 Gi st acc done, [some (V.ref la), some (.ref a), some (.ref x), some (.ref D), some (.int (i : Nat)), some (.int e.tick), some (.int e.key), some (.str (wayS e.dn)), c8] = [some (.ref la), some (.ref a), some (.ref x), some (.ref D), v4, v5, v6, v7, v8] ∧ Gr G H Gi (upd H5 l (.lst (xs' ++ [y']))) ∧ PlAt C Gi (upd H5 l (.lst (xs' ++ [y']))) x dl db L st ∧ (upd H5 l (.lst (xs' ++ [y']))) D = some (.lst acc) ∧ Gi D = none ∧ DqAll Gi acc (done.map stepD) ∧ done.length ≤ i + 1 ∧ done ++ stepsGo L R (i + 1) st (R.drop (i + 1)) = mSteps L R ∧ st.size ≤ i + 1 ∧ BdOk L st := fun H5 G5 st' y s c8 f hP5 dy es1 hs5 hb5 => by
        have hD5 : H5 D = some (.lst acc) := f.keep D _ (fun z => nD D z rfl) (gT.keep _ _ hD2)
        have gD5 : G5 D = none := f.out (gT.keep _ _ hD2) gD
        have hla : acc.length = done.length := by rw [hacc.length, List.length_map]
        refine ⟨D, acc, y, rfl, rfl, hD5, small1000 (by omega), some (.int (i : Nat)), some (.int e.tick), some (.int e.key), some (.str (wayS e.dn)), c8, G5, st', acc ++ [y], done ++ [s], rfl, (Gr.stepP g2 f own0).set hDH gD5, ?_, upd_same, gD5, ?_, by simp; omega, ?_, hs5, hb5⟩
        · exact hP5.keep (Same.refl _) (fun b o hb ho => by rw [upd_ne (fun z => nD b hb z.symm)]; exact ho) fun b hb => hP5.none_of hb
        · rw [List.map_append]
          exact (hacc.of f.ext).append (.one dy)
        · rw [List.append_assoc]
          show done ++ (s :: stepsGo L R (i + 1) st' (R.drop (i + 1))) = _
          rw [← hdone]
          show _ = done ++ ((step1 L R i st e).1 :: stepsGo L R (i + 1) (step1 L R i st e).2 (R.drop (i + 1)))
          rw [es1]
      have sz400 : st.size ≤ 500 := by omega
      cases hdn : e.dn with
      | true =>
        rw [hdn] at step
        refine ⟨_, rfl, x, dx4, _, rfl, hp4, lk_other (by decide +kernel), _, rfl, Gi, x, dl, db, L, st, e.key, rfl, g2.sub, hP2, hL, hbo, sz400, hke, fun tv G3 H3 g3 dt => ?_⟩
        obtain ⟨qt, ts, rfl, hqt, tt⟩ := dt.tupE
        obtain ⟨t1, t2, rfl, dt1, dt2⟩ := tt.twoE
        have hP3 := hP2.gr g3
        obtain ⟨la5, dx5, hp5, _⟩ := id hP3.ob
        refine ⟨_, rfl, .inl ⟨rfl, acc, sqL (g3.keep _ _ (gT.keep _ _ hD2))⟩, ?_⟩
        refine ⟨_, rfl, _, rfl, x, dx5, _, rfl, hp5, lk_other (by decide +kernel), _, rfl, _, rfl, _, rfl, _, rfl, qt, _, _, _, rfl, rfl, g3.sub _ _ hqt, atI_nat (j := 1) rfl, ?_⟩
        refine ⟨V.ref a, t2, R, i, (mLook L st e.key).2, rfl, hu2.of ((g2.trans g3).ext.trans g3.sub), dt2.of g3.sub, hi2, hl, fun H6 s6 => ?_⟩
        have g6 : Gr Gi HT G3 H6 := g3.same s6
        have hP6 := hP2.gr g6
        refine ⟨G3, x, dl, db, L, st, e.key, mDecide R i (mLook L st e.key).2, rfl, g6.sub, hP6, hL, hbo, sz400, hke, fun hd => ?_, fun ov G7 H7 g7 hP7 do7 => ?_⟩
        · unfold mDecide
          rw [if_pos hd]
          exact nofun
        · rw [decided_tap] at hP7 do7
          refine ⟨by show 2 ≤ sizeLine; decide, fun z hz => ?_⟩
          have gz : Gr G7 H7 (upd G7 z (.tup [.ref qt, ov])) (upd H7 z (.tup [.ref qt, ov])) := (Gr.refl g7.sub).fr hz
          have hok := down_ok hL (tap := mTapped R i (mLook L st e.key).2) hke hbo
          refine step _ _ _ (.ref z) (some (mLook L st e.key), (mDown L st e.key (mTapped R i (mLook L st e.key).2)).1) _ ((GrP.of g6).trans (g7.trans (GrP.of gz))) (hP7.gr gz) (newT (g7.sub.free hz) (.two (dt.of g7.ext) do7)) ?_ (by omega) hok.1
          unfold step1
          rw [if_pos hdn]
      | false =>
        rw [hdn] at step
        refine ⟨_, rfl, .inl ⟨rfl, acc, sqL (gT.keep _ _ hD2)⟩, ?_⟩
        refine ⟨_, rfl, x, dx4, _, rfl, hp4, lk_other (by decide +kernel), _, rfl, Gi, x, dl, db, L, st, e.key, rfl, g2.sub, hP2, fun ov G7 H7 g7 hP7 do7 => ?_⟩
        refine ⟨by show 2 ≤ sizeLine; decide, fun z hz => ?_⟩
        have gz : Gr G7 H7 (upd G7 z (.tup [.non, ov])) (upd H7 z (.tup [.non, ov])) := (Gr.refl g7.sub).fr hz
        have hok := up_ok (k := e.key) hbo
        refine step _ _ _ (.ref z) (none, (mUp st e.key).1) _ (g7.trans (GrP.of gz)) (hP7.gr gz) (newT (g7.sub.free hz) (.two .non do7)) ?_ (by omega) hok.1
        unfold step1
        rw [if_neg (by rw [hdn]; exact nofun)]
    · obtain ⟨v4, v5, v6, v7, v8, Gi, st, acc, done, rfl, g, hP, hD2, gD, hacc, hdl', hdone, hsz, hbo⟩ := h
      have e1 : R.drop xs.length = [] := List.drop_eq_nil_of_le (by omega)
      rw [e1] at hdone
      have hdone2 : done = mSteps L R := by rw [← hdone]; simp [stepsGo]
      subst hdone2
      refine ⟨_, rfl, _, rfl, by show 2 ≤ sizeLine; decide, fun z hz => ?_⟩
      have gf : Gr G H (upd Gi D (.lst acc)) H2 := g.freeze hDH hD2
      have sf : Same Gi (upd Gi D (.lst acc)) := same_upd gD
      have gz : Gr G H (upd (upd Gi D (.lst acc)) z (.tup [.ref D, .ref x])) (upd H2 z (.tup [.ref D, .ref x])) := gf.fr hz
      have hzG : (upd Gi D (.lst acc)) z = none := gf.sub.free hz
      refine k z D x _ _ gz upd_same ?_
      exact (show Dq (upd Gi D (.lst acc)) (.ref D) _ from ls upd_same (hacc.of sf)).of (same_upd hzG)
abbrev splayed : Stmt := top 36
abbrev Nplayed : List PySem.Str := ["layout", "record", "taken", "output"]
abbrev Pplayed : List PySem.Str := ["layout", "record"]
theorem scplayed : FnScope Nplayed Pplayed (defScope splayed) := ⟨rfl, rfl, rfl, by decide +kernel, rfl, by decide +kernel, by decide +kernel⟩
theorem ok_played {f : Addr} {fd : FuncData} (F : Fun K "played" "played" splayed f fd) (B : Bt mg) (c_require_layout : C8.Cal P w K mg base 5 "require_layout" sp_require_layout []) (c_require_record : C8.Cal P w K mg base 6 "require_record" sp_require_record []) (c_steps_of : C8.Cal P w K mg base 5 "steps_of" sp_steps_of []) : FnOk P w K mg base CX0 7 f fd Pplayed sp_played := by
  refine F.ok scplayed (fun vs H Q E h => ?_) (fun cdv A outer s H vs Q E hr h => ?_)
  · obtain ⟨G, v, u, L, R, rfl, _⟩ := h
    rfl
  · obtain ⟨G, v, u, L, R, rfl, sG, hv, hL, hu, hR, k⟩ := h
    have nd := scplayed.nd
    refine ⟨_, (pss_cons (ps_expr (C8.pe_c c_require_layout hr (by decide) rfl (pa_cons (pv 0) pa_nil)))
    (pss_cons (ps_expr (C8.pe_c c_require_record hr (by decide) rfl (pa_cons (pv 0) (pa_cons (pv 1) pa_nil))))
    (pss_one (ps_ret (pe_lc (own := [("taken", 2), ("output", 3)]) rfl nd (pi_list (pe_ix ixtq (C8.pe_c c_steps_of hr (by decide) rfl (pa_cons (pv 0) (pa_cons (pv 1) pa_nil))) pe_int (fun _ _ => rfl))) (blkOk_by (own := [("taken", 2), ("output", 3)]) (N := Nplayed) (sc := defScope splayed) (by decide +kernel)) (fun _ _ _ _ _ => (pg_tupq (n := 2) rfl (pgs_cons (pg_name (i := 2) nd rfl (Or.inl rfl)) (pgs_cons (pg_name (i := 3) nd rfl (Or.inl rfl)) pgs_nil)))) (fun _ _ _ _ _ => pts_nil) (fun _ _ _ _ _ => (pv 3))))))), ?_⟩
    refine ⟨_, rfl, v, L, rfl, hv.of sG, hL, fun H1 s1 => ?_⟩
    refine ⟨_, rfl, _, rfl, v, u, L, R, rfl, (hv.of sG).of s1, hL, (hu.of sG).of s1, hR, fun H2 s2 => ?_⟩
    have g2 : Gr G H G H2 := ((Gr.refl sG).same s1).same s2
    refine ⟨_, rfl, _, rfl, G, v, u, L, R, rfl, g2.sub, hv, hL, hu, hR.keys, hR.len, fun q l pl G3 H3 g3 hq dl => ?_⟩
    have g4 := g2.trans g3
    obtain ⟨l', xs, e, hl, t⟩ := dl.lstE
    cases e
    have hxl : xs.length = (mSteps L R).length := by rw [t.length, List.length_map]
    have hsl : (mSteps L R).length ≤ 400 := by
      have : ∀ (r : List Ev) (n : Nat) (st : Pl), (stepsGo L R n st r).length = r.length := by
        intro r
        induction r with
        | nil => intro n st; rfl
        | cons e r ih => intro n st; show (_ :: stepsGo L R (n + 1) _ r).length = _; simp [ih]
      unfold mSteps
      rw [this]
      exact hR.len
    refine ⟨q, _, _, _, rfl, rfl, g3.sub _ _ hq, atI_nat (j := 0) rfl, l, rfl, ⟨_, sqL (g3.sub _ _ hl)⟩, fun D hD => ?_⟩
    refine lcD (G := G) (G1 := G3) (fun i => ((mSteps L R)[i]?).map fun s => outD s.2) (walkL (K := K) (a := l) (xs := xs)) (by omega) g4 (fun Gi Hi g => g.keep _ _ (g3.sub _ _ hl)) hD (fun i x Gi Hi H' Ok No hi g y ok no => ?_) fun G' H' g5 g6 dq => ?_
    · obtain ⟨rfl, hy⟩ := y
      obtain ⟨s, es, dv⟩ := getV_map t hy
      obtain ⟨z, zs, rfl, hz, tz⟩ := dv.tupE
      obtain ⟨z1, z2, rfl, d1, d2⟩ := tz.twoE
      refine ⟨z, _, rfl, g.keep _ _ (g3.sub _ _ hz), rfl, _, _, rfl, _, _, rfl, rfl, rfl, _, rfl, ok _ Gi _ (outD s.2) (Gr.refl g.sub) (d2.of g.ext) ?_⟩
      show ((mSteps L R)[i]?).map _ = _
      rw [es]
      rfl
    · rw [hxl, made_map] at dq
      refine k _ G' H' g5 ?_
      unfold mPlayed
      rw [List.map_map]
      exact dq
abbrev sflat : Stmt := top 37
abbrev Nflat : List PySem.Str := ["layout", "record", "output"]
abbrev Pflat : List PySem.Str := ["layout", "record"]
theorem scflat : FnScope Nflat Pflat (defScope sflat) := ⟨rfl, rfl, rfl, by decide +kernel, rfl, by decide +kernel, by decide +kernel⟩
theorem ok_flat {f : Addr} {fd : FuncData} (F : Fun K "flat" "flat" sflat f fd) (B : Bt mg) (c_played : C8.Cal P w K mg base 7 "played" sp_played []) : FnOk P w K mg base CX0 8 f fd Pflat sp_flat := by
  refine F.ok scflat (fun vs H Q E h => ?_) (fun cdv A outer s H vs Q E hr h => ?_)
  · obtain ⟨G, v, u, L, R, rfl, _⟩ := h
    rfl
  · obtain ⟨G, v, u, L, R, rfl, sG, hv, hL, hu, hR, k⟩ := h
    have nd := scflat.nd
    refine ⟨_, (pss_one (ps_ret (pe_lc (own := [("output", 2)]) rfl nd (pi_list (C8.pe_c c_played hr (by decide) rfl (pa_cons (pv 0) (pa_cons (pv 1) pa_nil)))) (blkOk_by (own := [("output", 2)]) (N := Nflat) (sc := defScope sflat) (by decide +kernel)) (fun _ _ _ _ _ => (pg_name (i := 2) nd rfl (Or.inl rfl))) (fun _ _ _ _ _ => (pts_one (pt_cmpR (op_neQ hr.units) (pv 2) (pe_tup pa_nil) (by first | exact nomark _ | rfl)))) (fun _ _ _ _ _ => (pv 2))))), ?_⟩
    refine ⟨_, rfl, _, rfl, G, v, u, L, R, rfl, sG, hv, hL, hu, hR, fun x G1 H1 g1 dx => ?_⟩
    obtain ⟨l, xs, rfl, hl, t⟩ := dx.lstE
    have hxl : xs.length = (mPlayed L R).length := by rw [t.length, List.length_map]
    have hsl : (mPlayed L R).length ≤ 400 := by
      have : ∀ (r : List Ev) (n : Nat) (st : Pl), (stepsGo L R n st r).length = r.length := by
        intro r
        induction r with
        | nil => intro n st; rfl
        | cons e r ih => intro n st; show (_ :: stepsGo L R (n + 1) _ r).length = _; simp [ih]
      unfold mPlayed mSteps
      rw [List.length_map, this]
      exact hR.len
    refine ⟨l, rfl, ⟨_, sqL (g1.sub _ _ hl)⟩, fun D hD => ?_⟩
    refine lcD (G := G) (G1 := G1) (fun i => ((mPlayed L R)[i]?).bind fun o => if o.isSome then some (outD o) else none) (walkL (K := K) (a := l) (xs := xs)) (by omega) g1 (fun Gi Hi g => g.keep _ _ (g1.sub _ _ hl)) hD (fun i x Gi Hi H' Ok No hi g y ok no => ?_) fun G' H' g5 g6 dq => ?_
    · obtain ⟨rfl, hy⟩ := y
      obtain ⟨o, eo, dv⟩ := getV_map t hy
      have ook : OutOk o := by
        have hm := List.mem_of_getElem? eo
        obtain ⟨s, hs, e2⟩ := List.mem_map.mp hm
        rw [← e2]
        exact steps_out hL (fun _ h => by cases h) hR.keys s hs
      have dvH : Dq H' x (outD o) := dv.of (g1.sub.trans g.keep)
      refine ⟨rfl, _, rfl, Nat.zero_le _, fun z hz => ?_⟩
      refine ⟨1, outD o, .tuple [], dvH.of (same_new hz), tp upd_same .nil, by decide, fineOut ook, (fun y hy => by cases hy), fun c hc => ⟨c, rfl, ?_⟩⟩
      have gz : Gr Gi H' Gi (upd H' z (.tup [])) := (Gr.refl g.sub).tmp hz
      have efull : (((mPlayed L R)[i]?).bind fun o => if o.isSome then some (outD o) else none) = if o.isSome then some (outD o) else none := by rw [eo]; rfl
      refine iteB (fun h => ⟨_, rfl, ok _ Gi _ (outD o) gz (dv.of g.ext) ?_⟩) fun h => no Gi _ gz ?_
      · show (((mPlayed L R)[i]?).bind _) = _
        rw [efull]
        have : ¬ o = none := fun e => (hc.mp h) (out_eq.mpr e)
        cases o with
        | none => exact absurd rfl this
        | some q => rfl
      · show (((mPlayed L R)[i]?).bind _) = _
        rw [efull]
        have : o = none := by
          by_cases e : o = none
          · exact e
          · have := hc.mpr (fun z => e (out_eq.mp z))
            rw [h] at this
            cases this
        rw [this]
        rfl
    · have e4 : made (fun i => ((mPlayed L R)[i]?).bind fun o => if o.isSome then some (outD o) else none) xs.length = (mFlat L R).map outD := by
        rw [hxl, made_get]
        unfold mFlat
        induction mPlayed L R with
        | nil => rfl
        | cons o l ih =>
          cases o with
          | none => rw [List.filterMap_cons, List.filter_cons_of_neg (by simp)]; exact ih
          | some q => rw [List.filterMap_cons, List.filter_cons_of_pos (by simp)]; simp [ih]
      rw [e4] at dq
      exact k _ G' H' g5 dq
end
end HT7
end partW10
section partW11
set_option Elab.async false
set_option linter.all false
set_option maxRecDepth 100000
namespace HT7
open PySem PySem.Spec PyProof.Rows L2 HT5 HT6
theorem ixN_nat {n j : Nat} (h : j < n) : ixN n (j : Int) = some j := by
  unfold ixN
  rw [if_pos (by omega), if_pos (by omega)]
  simp
theorem int_at {ns : List Int} {i : Nat} (h : i < ns.length) : (ns.map V.int)[i]? = some (.int (ns.getD i 0)) := by
  simp [h]
theorem relax1_len (ns : List Int) (b : Bd) : (relax1 ns b).length = ns.length := by
  unfold relax1
  split <;> simp
theorem relaxAll_len : ∀ (bs : List Bd) (ns : List Int), (relaxAll ns bs).length = ns.length
  | [], ns => rfl
  | b :: r, ns => by
    show (relaxAll (relax1 ns b) r).length = _
    rw [relaxAll_len, relax1_len]
def liftD : Option (List Int) → PyData
  | none => .none
  | some t => intsD t
def BdIn (n : Nat) (bs : List Bd) : Prop := ∀ b ∈ bs, b.1 < n ∧ b.2.1 < n
def sp_lifted_numbers : Sp := fun vs H Q _ => ∃ (G : Hp) (v u : V) (bs : List Bd) (ns : List Int), vs = [v, u] ∧ Same G H ∧ Dq G v (.list (bs.map bdD)) ∧ Dq G u (intsD ns) ∧ BdIn ns.length bs ∧ ns.length ≤ 1000 ∧
  ∀ x G' H', Gr G H G' H' → Dq G' x (liftD (mLifted bs ns)) → Q x H'
def sp_merged_rows (n : Nat) : Sp := fun vs H Q _ => ∃ (G : Hp) (v u : V) (a b : List Nat), vs = [v, u] ∧ Same G H ∧ Dq G v (natsD a) ∧ Dq G u (natsD b) ∧ a.length + b.length ≤ n ∧
  ∀ x G' H', Gr G H G' H' → Dq G' x (.list ((mergeF (a.length + b.length) a b).map natsD)) → Q x H'
def sp_arrival_bounds : Sp := fun vs H Q _ => ∃ (G : Hp) (v u x : V) (R : List Ev) (half : List Int) (row : List Nat), vs = [v, u, x] ∧ Same G H ∧ Dq G v (recD R) ∧ Dq G u (intsD half) ∧ Dq G x (natsD row) ∧ (∀ n ∈ row, n < R.length) ∧ row.length ≤ 100 ∧
  ∀ y G' H', Gr G H G' H' → Dq G' y (.list ((arrBounds R half row).map bdD)) → Q y H'
section
variable {P : Program} {w : World} {K : PySem.W.Frag} {mg : Str → Option Value} {base : Heap}
abbrev slifted_numbers : Stmt := top 28
abbrev Nlifted_numbers : List PySem.Str := ["bounds", "begun", "numbers", "turn", "is_changed", "i", "j", "d"]
abbrev Plifted_numbers : List PySem.Str := ["bounds", "begun"]
theorem sclifted_numbers : FnScope Nlifted_numbers Plifted_numbers (defScope slifted_numbers) := ⟨rfl, rfl, rfl, by decide +kernel, rfl, by decide +kernel, by decide +kernel⟩
theorem ok_lifted_numbers {f : Addr} {fd : FuncData} (F : Fun K "lifted_numbers" "lifted_numbers" slifted_numbers f fd) (B : Bt mg) : FnOk P w K mg base CX0 1 f fd Plifted_numbers sp_lifted_numbers := by
  refine F.ok sclifted_numbers (fun vs H Q E h => ?_) (fun cdv A outer s H vs Q E hr h => ?_)
  · obtain ⟨G, v, u, bs, ns, rfl, _⟩ := h
    rfl
  · obtain ⟨G, v, u, bs, ns, rfl, sG, hv, hu, hB, hn, k⟩ := h
    have nd := sclifted_numbers.nd
    obtain ⟨a, xs, rfl, ha, t⟩ := hv.lstE
    obtain ⟨b, ys, rfl, hb, tb⟩ := Dq.lstE hu
    obtain rfl := dp_intsE tb
    have hxl : xs.length = bs.length := by rw [t.length, List.length_map]
    refine ⟨_, (pss_cons (ps_set (i := 2) nd rfl (Or.inl rfl) (pe_callTy listq (by rfl) B.list (by decide +kernel) (pa_cons (pv 1) pa_nil)))
    (pss_cons (ps_for PassesOwn.never rfl (pi_range1 rfl B.range (pa_cons (pe_op op_add (pe_callB lenLq (by rfl) B.len (by decide +kernel) (pa_cons (pv 2) pa_nil)) pe_int) pa_nil)) (pg_name (i := 3) nd rfl (Or.inl rfl)) (pss_cons (ps_set (i := 4) nd rfl (Or.inl rfl) pe_bl)
    (pss_cons (ps_for PassesOwn.never rfl (pi_list (pv 0)) (pg_tupq (n := 3) rfl (pgs_cons (pg_name (i := 5) nd rfl (Or.inl rfl)) (pgs_cons (pg_name (i := 6) nd rfl (Or.inl rfl)) (pgs_cons (pg_name (i := 7) nd rfl (Or.inl rfl)) pgs_nil)))) (pss_one (ps_if (PW.pt (pw_and (pt_cmpR op_notN (pe_ix ixlq (pv 2) (pv 5) (fun _ _ => rfl)) pe_non (by first | exact nomark _ | rfl)) (pw_and1 (PW.pt (pw_or (pt_cmpR op_isN (pe_ix ixlq (pv 2) (pv 6) (fun _ _ => rfl)) pe_non (by first | exact nomark _ | rfl)) (pw_or1 (pt_cmpR op_lt (pe_ix ixlq (pv 2) (pv 6) (fun _ _ => rfl)) (pe_op op_add (pe_ix ixlq (pv 2) (pv 5) (fun _ _ => rfl)) (pv 7)) (by first | exact nomark _ | rfl)))))))) (pss_cons (ps_asg (pe_op op_add (pe_ix ixlq (pv 2) (pv 5) (fun _ _ => rfl)) (pv 7)) (pg_sub (pv 2) (pv 6) set_list))
    (pss_one (ps_set (i := 4) nd rfl (Or.inl rfl) pe_bl))) pss_nil)))
    (pss_one (ps_if (pt_not (pt_val (pv 4))) (pss_one (ps_ret (pv 2))) pss_nil)))))
    (pss_one (ps_ret pe_non)))), ?_⟩
    refine ⟨_, rfl, b, _, rfl, .inl (sG _ _ hb), fun D hD => ?_⟩
    have gD : G D = none := sG.free hD
    refine ⟨_, rfl, D, _, rfl, upd_same, _, _, rfl, rfl, _, rfl, by simp; omega, by simp; omega, ?_⟩
    refine for_it (walk_range (lo := 0) (n := ((ns.map V.int).length + 1 : Int).toNat)) (fun i σ H' => ∃ v3 v4 v5 v6 v7 c, σ = [some (.ref a), some (.ref b), some (.ref D), v3, v4, v5, v6, v7] ∧ Same H H' ∧ H' D = some (.lst (c.map V.int)) ∧ c.length = ns.length ∧ liftGo bs (ns.length + 1 - i) c = mLifted bs ns)
      ⟨none, none, none, none, none, ns, rfl, same_new hD, upd_same, rfl, rfl⟩ (fun _ _ _ _ _ => trivial) (fun i x σ H1 H2 hi h y => ?_) fun σ H1 h => ?_
    · obtain ⟨v3, v4, v5, v6, v7, c, rfl, s1, hD1, hc, hgo⟩ := h
      obtain ⟨rfl, hx⟩ := y
      have hi2 : i < ns.length + 1 := by simp at hi; omega
      have e1 : ns.length + 1 - i = (ns.length + 1 - (i + 1)) + 1 := by omega
      rw [e1] at hgo
      refine ⟨_, rfl, a, rfl, ⟨xs, sqL (s1 _ _ (sG _ _ ha))⟩, ?_⟩
      refine for_it (walkL (K := K) (a := a) (xs := xs)) (fun j σ H' => ∃ v5 v6 v7 c2 fl, σ = [some (.ref a), some (.ref b), some (.ref D), some x, some (.bl fl), v5, v6, v7] ∧ Same H H' ∧ H' D = some (.lst (c2.map V.int)) ∧ c2.length = ns.length ∧ relaxAll c2 (bs.drop j) = relaxAll c bs ∧ (fl || raisesAll c2 (bs.drop j)) = raisesAll c bs)
        ⟨v5, v6, v7, c, false, rfl, s1, hD1, hc, rfl, by simp⟩ (fun j σ H' _ h => ?_) (fun j y σ H3 H4 hj h yy => ?_) fun σ H3 h => ?_
      · obtain ⟨_, _, _, _, _, _, s2, _⟩ := h
        exact s2 _ _ (sG _ _ ha)
      · obtain ⟨v5, v6, v7, c2, fl, rfl, s2, hD2, hc2, hr1, hr2⟩ := h
        obtain ⟨rfl, hy⟩ := yy
        obtain ⟨bd, eb, dv⟩ := getV_map t hy
        obtain ⟨p, zs, rfl, hp, tz⟩ := (show Dq G y (.tuple [.int (bd.1 : Nat), .int (bd.2.1 : Nat), .int bd.2.2]) from dv).tupE
        obtain ⟨z1, z2, z3, rfl, d1, d2, d3⟩ := tz.threeE
        obtain rfl := d1.intE
        obtain rfl := d2.intE
        obtain rfl := d3.intE
        obtain ⟨b1, b2⟩ := hB bd (List.mem_of_getElem? eb)
        have b1' : bd.1 < c2.length := by rw [hc2]; exact b1
        have b2' : bd.2.1 < c2.length := by rw [hc2]; exact b2
        have edr : bs.drop j = bd :: bs.drop (j + 1) := by
          rw [List.drop_eq_getElem_cons (List.getElem?_eq_some_iff.mp eb).1, (List.getElem?_eq_some_iff.mp eb).2]
        rw [edr] at hr1 hr2
        refine ⟨p, _, rfl, s2 _ _ (sG _ _ hp), rfl, _, _, rfl, _, _, rfl, _, _, rfl, rfl, ?_⟩
        refine ⟨_, rfl, _, rfl, D, _, _, _, rfl, rfl, hD2, atI_nat (int_at b1'), rfl, true, rfl, ?_⟩
        refine ⟨_, rfl, _, rfl, D, _, _, _, rfl, rfl, hD2, atI_nat (int_at b2'), rfl, false, rfl, ?_⟩
        refine ⟨_, rfl, _, rfl, D, _, _, _, rfl, rfl, hD2, atI_nat (int_at b2'), ?_⟩
        refine ⟨_, rfl, _, rfl, D, _, _, _, rfl, rfl, hD2, atI_nat (int_at b1'), _, rfl, _, _, rfl, rfl, _, _, rfl, rfl, _, rfl, ?_⟩
        have hr1' : relaxAll (relax1 c2 bd) (bs.drop (j + 1)) = relaxAll c bs := hr1
        have hr2' : (fl || (raises1 c2 bd || raisesAll (relax1 c2 bd) (bs.drop (j + 1)))) = raisesAll c bs := hr2
        refine iteB (fun h => ?_) fun h => ?_
        · have hlt : c2.getD bd.2.1 0 < c2.getD bd.1 0 + bd.2.2 := of_decide_eq_true h
          have er : relax1 c2 bd = c2.set bd.2.1 (c2.getD bd.1 0 + bd.2.2) := by unfold relax1; rw [if_pos hlt]
          have es : raises1 c2 bd = true := decide_eq_true hlt
          rw [er] at hr1' hr2'
          rw [es] at hr2'
          refine ⟨_, rfl, _, rfl, D, _, _, _, rfl, rfl, hD2, atI_nat (int_at b1'), _, rfl, _, _, rfl, rfl, _, rfl, _, rfl, D, _, _, bd.2.1, rfl, rfl, hD2, ixN_nat (by rw [List.length_map]; exact b2'), ?_⟩
          refine ⟨_, _, _, c2.set bd.2.1 (c2.getD bd.1 0 + bd.2.2), true, rfl, fun q o hq => ?_, ?_, by rw [List.length_set]; exact hc2, hr1', ?_⟩
          · rw [upd_ne (ne_of_none hq hD)]; exact s2 _ _ hq
          · rw [upd_same, List.map_set]
          · rw [← hr2']
            cases fl <;> rfl
        · have hlt : ¬ c2.getD bd.2.1 0 < c2.getD bd.1 0 + bd.2.2 := of_decide_eq_false h
          have er : relax1 c2 bd = c2 := by unfold relax1; rw [if_neg hlt]
          have es : raises1 c2 bd = false := decide_eq_false hlt
          rw [er] at hr1' hr2'
          rw [es] at hr2'
          exact ⟨_, _, _, c2, fl, rfl, s2, hD2, hc2, hr1', hr2'⟩
      · obtain ⟨v5, v6, v7, c2, fl, rfl, s2, hD2, hc2, hr1, hr2⟩ := h
        have e2 : bs.drop xs.length = [] := List.drop_eq_nil_of_le (by omega)
        rw [e2] at hr1 hr2
        have hr1' : c2 = relaxAll c bs := hr1
        have hr2' : fl = raisesAll c bs := by rw [← hr2]; show fl = (fl || false); cases fl <;> rfl
        refine ⟨_, rfl, fl, rfl, ?_⟩
        unfold liftGo at hgo
        rw [← hr2', ← hr1'] at hgo
        cases fl with
        | true => exact ⟨_, _, _, _, _, c2, rfl, s2, hD2, hc2, hgo⟩
        | false =>
          refine ⟨_, rfl, ?_⟩
          have g3 : Gr G H (upd G D (.lst (c2.map V.int))) H3 := ((Gr.refl sG).same s2).freeze hD hD2
          refine k _ _ _ g3 ?_
          rw [← hgo]
          exact newL gD dp_ints
    · obtain ⟨v3, v4, v5, v6, v7, c, rfl, s1, hD1, hc, hgo⟩ := h
      have e1 : ns.length + 1 - ((ns.map V.int).length + 1 : Int).toNat = 0 := by rw [List.length_map]; omega
      rw [e1] at hgo
      refine k _ G H1 ((Gr.refl sG).same s1) ?_
      rw [← hgo]
      exact .non
theorem dq_natsE {G : Hp} : ∀ {ns : List Nat} {vs : List V}, DqAll G vs (ns.map fun n => PyData.int ((n : Nat) : Int)) → vs = ns.map fun n => V.int (n : Nat)
  | [], _, .nil => rfl
  | _ :: _, _, .cons h t => by rw [h.intE, dq_natsE t]; rfl
theorem dq_nats {G : Hp} : ∀ {ns : List Nat}, DqAll G (ns.map fun n => V.int (n : Nat)) (ns.map fun n => PyData.int ((n : Nat) : Int))
  | [] => .nil
  | _ :: _ => .cons (.int _) dq_nats
theorem fine_nats {ns : List Nat} : Fine 1 (natsD ns) := by
  intro x hx
  obtain ⟨n, _, rfl⟩ := List.mem_map.mp hx
  trivial
theorem nats_nil {ns : List Nat} : natsD ns = .list [] ↔ ns = [] := by
  cases ns <;> simp [natsD]
theorem mergeF_len : ∀ (f : Nat) (a b : List Nat), a.length + b.length ≤ f → (mergeF f a b).length ≤ 2 ^ f
  | 0, a, b, h => by simp [mergeF]
  | f + 1, [], b, h => by
    show 1 ≤ 2 ^ (f + 1)
    exact Nat.one_le_two_pow
  | f + 1, a :: as, [], h => by
    show 1 ≤ 2 ^ (f + 1)
    exact Nat.one_le_two_pow
  | f + 1, a :: as, b :: bs, h => by
    show ((mergeF f as (b :: bs)).map (a :: ·) ++ (mergeF f (a :: as) bs).map (b :: ·)).length ≤ 2 ^ (f + 1)
    rw [List.length_append, List.length_map, List.length_map]
    have h1 := mergeF_len f as (b :: bs) (by simp at h ⊢; omega)
    have h2 := mergeF_len f (a :: as) bs (by simp at h ⊢; omega)
    rw [Nat.pow_succ]
    omega
theorem mergeF_mem : ∀ (f : Nat) (a b r : List Nat), a.length + b.length ≤ f → r ∈ mergeF f a b → r.length = a.length + b.length
  | 0, a, b, r, h, hr => by
    have : r = a ++ b := by simpa [mergeF] using hr
    rw [this, List.length_append]
  | f + 1, [], b, r, h, hr => by
    have : r = b := by simpa [mergeF] using hr
    rw [this]; simp
  | f + 1, a :: as, [], r, h, hr => by
    have : r = a :: as := by simpa [mergeF] using hr
    rw [this]; simp
  | f + 1, a :: as, b :: bs, r, h, hr => by
    rcases List.mem_append.mp (show r ∈ (mergeF f as (b :: bs)).map (a :: ·) ++ (mergeF f (a :: as) bs).map (b :: ·) from hr) with h1 | h1
    · obtain ⟨r', h2, rfl⟩ := List.mem_map.mp h1
      have := mergeF_mem f as (b :: bs) r' (by simp at h ⊢; omega) h2
      simp at this ⊢; omega
    · obtain ⟨r', h2, rfl⟩ := List.mem_map.mp h1
      have := mergeF_mem f (a :: as) bs r' (by simp at h ⊢; omega) h2
      simp at this ⊢; omega
theorem cut1 (xs : List V) : cutV xs (some 1) none = xs.drop 1 := by
  unfold cutV
  have e1 : HT.sIx xs.length xs.length none = xs.length := rfl
  have e2 : HT.sIx xs.length 0 (some 1) = min 1 xs.length := by
    unfold HT.sIx
    simp
  rw [e1, e2]
  rw [List.take_of_length_le (by simp)]
  cases xs with
  | nil => rfl
  | cons x xs => simp
theorem ok_merged_rows_0 : True := trivial
abbrev smerged_rows : Stmt := top 51
abbrev Nmerged_rows : List PySem.Str := ["first", "second", "rows", "row"]
abbrev Pmerged_rows : List PySem.Str := ["first", "second"]
theorem scmerged_rows : FnScope Nmerged_rows Pmerged_rows (defScope smerged_rows) := ⟨rfl, rfl, rfl, by decide +kernel, rfl, by decide +kernel, by decide +kernel⟩
theorem ok_merged_rows {f : Addr} {fd : FuncData} (F : Fun K "merged_rows" "merged_rows" smerged_rows f fd) (B : Bt mg) (hm : mg "merged_rows" = some (.ref f)) (hb : Binds K fd Pmerged_rows []) : ∀ n, n ≤ 15 → FnOk P w K mg base CX0 (n + 1) f fd Pmerged_rows (sp_merged_rows n) := by
  intro n
  induction n with
  | zero =>
    intro _
    refine F.ok scmerged_rows (fun vs H Q E h => ?_) (fun cdv A outer s H vs Q E hr h => ?_)
    · obtain ⟨G, v, u, a, b, rfl, _⟩ := h
      rfl
    · obtain ⟨G, v, u, a, b, rfl, sG, hv, hu, hl, k⟩ := h
      have nd := scmerged_rows.nd
      obtain rfl : a = [] := List.length_eq_zero_iff.mp (by omega)
      obtain rfl : b = [] := List.length_eq_zero_iff.mp (by omega)
      refine ⟨_, pss_cons (ps_if (PW.pt (pw_or (pt_cmpR (op_eqQ hr.units) (pv 0) (pe_lst pa_nil) (by first | exact nomark _ | rfl)) (pw_or1 (pt_cmpR (op_eqQ hr.units) (pv 1) (pe_lst pa_nil) (by first | exact nomark _ | rfl))))) (pss_one (ps_ret (pe_lst (pa_cons (pe_op op_cat (pv 0) (pv 1)) pa_nil)))) pss_nil) pss_never, ?_⟩
      obtain ⟨pa, xs, rfl, ha, ta⟩ := Dq.lstE hv
      obtain ⟨pb, ys, rfl, hb', tb⟩ := Dq.lstE hu
      obtain rfl := ta.nilE
      obtain rfl := tb.nilE
      refine ⟨_, rfl, Nat.zero_le _, fun z hz => ⟨1, natsD [], .list [], (hv.of sG).of (same_new hz), ls upd_same .nil, by decide, fine_nats, (fun y hy => by cases hy), fun c hc => ⟨c, rfl, ?_⟩⟩⟩
      obtain rfl : c = true := hc.mpr rfl
      have s1 := same_new (o := .lst []) hz
      refine ⟨_, rfl, _, rfl, pa, pb, [], [], rfl, rfl, s1 _ _ (sG _ _ ha), s1 _ _ (sG _ _ hb'), Nat.zero_le _, fun q hq => ⟨by show 1 ≤ sizeLine; decide, fun r hr' => ?_⟩⟩
      have g1 : Gr G H (upd G q (.lst [])) (upd (upd H z (.lst [])) q (.lst ([] ++ []))) := ((Gr.refl sG).tmp hz).fr hq
      refine k _ (upd (upd G q (.lst [])) r (.lst [.ref q])) _ (g1.fr hr') ?_
      exact newL (g1.sub.free hr') (.one (ls upd_same .nil))
  | succ n ih =>
    intro hn
    have c_merged_rows : C8.Cal P w K mg base (n + 1) "merged_rows" (sp_merged_rows n) [] := ⟨f, fd, _, [], ih (by omega), hm, F.kp, hb, .nil⟩
    refine F.ok scmerged_rows (fun vs H Q E h => ?_) (fun cdv A outer s H vs Q E hr h => ?_)
    · obtain ⟨G, v, u, a, b, rfl, _⟩ := h
      rfl
    · obtain ⟨G, v, u, a, b, rfl, sG, hv, hu, hl, k⟩ := h
      have nd := scmerged_rows.nd
      refine ⟨_, (pss_cons (ps_if (PW.pt (pw_or (pt_cmpR (op_eqQ hr.units) (pv 0) (pe_lst pa_nil) (by first | exact nomark _ | rfl)) (pw_or1 (pt_cmpR (op_eqQ hr.units) (pv 1) (pe_lst pa_nil) (by first | exact nomark _ | rfl))))) (pss_one (ps_ret (pe_lst (pa_cons (pe_op op_cat (pv 0) (pv 1)) pa_nil)))) pss_nil)
    (pss_cons (ps_setLc (i := 2) (own := [("row", 3)]) rfl nd rfl rfl (sw_true rfl rfl rfl (by decide +kernel)) (pi_list (C8.pe_c c_merged_rows hr (Nat.le_refl _) rfl (pa_cons (pe_slice slLq (pv 0) (po_some pe_int) po_none) (pa_cons (pv 1) pa_nil)))) (blkOk_by (own := [("row", 3)]) (N := Nmerged_rows) (sc := defScope smerged_rows) (by decide +kernel)) (fun _ _ _ _ _ => (pg_name (i := 3) nd rfl (Or.inl rfl))) (fun _ _ _ _ _ => pts_nil) (fun _ _ _ _ _ => (pe_lst (pa_cons (pe_ix ixlq (pv 0) pe_int (fun _ _ => rfl)) (starq (pv 3) pa_nil)))))
    (pss_one (ps_ret (pe_op op_cat (pv 2) (pe_lc (own := [("row", 3)]) rfl nd (pi_list (C8.pe_c c_merged_rows hr (Nat.le_refl _) rfl (pa_cons (pv 0) (pa_cons (pe_slice slLq (pv 1) (po_some pe_int) po_none) pa_nil)))) (blkOk_by (own := [("row", 3)]) (N := Nmerged_rows) (sc := defScope smerged_rows) (by decide +kernel)) (fun _ _ _ _ _ => (pg_name (i := 3) nd rfl (Or.inl rfl))) (fun _ _ _ _ _ => pts_nil) (fun _ _ _ _ _ => (pe_lst (pa_cons (pe_ix ixlq (pv 1) pe_int (fun _ _ => rfl)) (starq (pv 3) pa_nil)))))))))), ?_⟩
      obtain ⟨pa, xs, rfl, ha, ta⟩ := Dq.lstE hv
      obtain ⟨pb, ys, rfl, hb', tb⟩ := Dq.lstE hu
      obtain rfl := dq_natsE ta
      obtain rfl := dq_natsE tb
      have leaf : ∀ H1, Same H H1 → mergeF (a.length + b.length) a b = [a ++ b] → ∃ l b' xs zs, V.ref pa = .ref l ∧ V.ref pb = .ref b' ∧ H1 l = some (.lst xs) ∧ H1 b' = some (.lst zs) ∧ xs.length + zs.length ≤ sizeLine ∧ ∀ p, H1 p = none → [V.ref p].length ≤ sizeLine ∧ ∀ r, (upd H1 p (.lst (xs ++ zs))) r = none → Q (.ref r) (upd (upd H1 p (.lst (xs ++ zs))) r (.lst [.ref p])) := fun H1 s1 e => by
        refine ⟨pa, pb, _, _, rfl, rfl, s1 _ _ (sG _ _ ha), s1 _ _ (sG _ _ hb'), small (by rw [List.length_map, List.length_map]; omega), fun p hp => ⟨by show 1 ≤ sizeLine; decide, fun r hr' => ?_⟩⟩
        have g1 : Gr G H (upd G p (.lst ((a.map fun n => V.int (n : Nat)) ++ b.map fun n => V.int (n : Nat)))) (upd H1 p (.lst ((a.map fun n => V.int (n : Nat)) ++ b.map fun n => V.int (n : Nat)))) := ((Gr.refl sG).same s1).fr hp
        refine k _ (upd (upd G p _) r (.lst [.ref p])) _ (g1.fr hr') ?_
        rw [e]
        refine newL (g1.sub.free hr') (.one (ls upd_same ?_))
        show DqAll _ _ ((a ++ b).map fun n => PyData.int ((n : Nat) : Int))
        rw [← List.map_append]
        exact dq_nats
      refine ⟨_, rfl, Nat.zero_le _, fun z hz => ⟨1, natsD a, .list [], (hv.of sG).of (same_new hz), ls upd_same .nil, by decide, fine_nats, (fun y hy => by cases hy), fun c hc => ⟨c, rfl, ?_⟩⟩⟩
      have s1 : Same H (upd H z (.lst [])) := same_new (o := .lst []) hz
      refine iteB (fun h => ?_) fun h => ?_
      · have ea : a = [] := nats_nil.mp (hc.mp h)
        refine ⟨_, rfl, _, rfl, leaf _ s1 ?_⟩
        subst ea
        cases b with
        | nil => rfl
        | cons b bs => show mergeF (0 + (bs.length + 1)) [] (b :: bs) = _; rw [Nat.zero_add]; rfl
      have ea : a ≠ [] := fun e => by
        have := hc.mpr (nats_nil.mpr e)
        rw [h] at this; cases this
      refine ⟨_, rfl, Nat.zero_le _, fun z2 hz2 => ⟨1, natsD b, .list [], ((hu.of sG).of s1).of (same_new hz2), ls upd_same .nil, by decide, fine_nats, (fun y hy => by cases hy), fun c2 hc2 => ⟨c2, rfl, ?_⟩⟩⟩
      have s2 : Same H (upd (upd H z (.lst [])) z2 (.lst [])) := s1.trans (same_new (o := .lst []) hz2)
      refine iteB (fun h2 => ?_) fun h2 => ?_
      · have eb : b = [] := nats_nil.mp (hc2.mp h2)
        refine ⟨_, rfl, _, rfl, leaf _ s2 ?_⟩
        subst eb
        cases a with
        | nil => rfl
        | cons a as => show [a :: as] = [a :: as ++ []]; rw [List.append_nil]
      have eb : b ≠ [] := fun e => by
        have := hc2.mpr (nats_nil.mpr e)
        rw [h2] at this; cases this
      obtain ⟨a0, as, rfl⟩ := List.exists_cons_of_ne_nil ea
      obtain ⟨b0, bs, rfl⟩ := List.exists_cons_of_ne_nil eb
      have g2 : Gr G H G (upd (upd H z (.lst [])) z2 (.lst [])) := (Gr.refl sG).same s2
      generalize hHz : upd (upd H z (.lst [])) z2 (.lst []) = H2 at g2 s2 ⊢
      clear hHz hz2 s1 leaf
      simp only [List.length_cons] at hl
      -- rows
      refine ⟨_, rfl, _, rfl, pa, _, rfl, s2 _ _ (sG _ _ ha), fun q hq => ⟨_, rfl, ?_⟩⟩
      rw [cut1]
      have g3 := g2.fr (o := .lst ((List.map (fun n => V.int (n : Nat)) (a0 :: as)).drop 1)) hq
      refine ⟨_, .ref q, .ref pb, as, b0 :: bs, rfl, g3.sub, newL (g2.sub.free hq) (by exact dq_nats), hu.of g3.ext, by simp only [List.length_cons]; omega, fun x1 G4 H4 g4 d4 => ?_⟩
      obtain ⟨r1, rs1, rfl, hr1, tr1⟩ := d4.lstE
      have g34 := g3.trans g4
      have hrl1 : rs1.length = (mergeF (as.length + (b0 :: bs).length) as (b0 :: bs)).length := by rw [tr1.length, List.length_map]
      have hm1 : rs1.length ≤ 32768 := by
        rw [hrl1]
        refine Nat.le_trans (mergeF_len _ _ _ (Nat.le_refl _)) ?_
        have : as.length + (b0 :: bs).length ≤ 15 := by simp only [List.length_cons]; omega
        exact Nat.le_trans (Nat.pow_le_pow_right (by decide) this) (by decide)
      refine ⟨r1, rfl, ⟨_, sqL (g4.sub _ _ hr1)⟩, fun D hD => ?_⟩
      refine lcD (G := G) (G1 := G4) (fun i => ((mergeF (as.length + (b0 :: bs).length) as (b0 :: bs))[i]?).map fun r => natsD (a0 :: r)) (walkL (K := K) (a := r1) (xs := rs1)) (by omega) g34 (fun Gi Hi g => g.keep _ _ (g4.sub _ _ hr1)) hD (fun i x Gi Hi H' Ok No hi g y ok no => ?_) fun G5 H5 g5 g6 dq => ?_
      · obtain ⟨rfl, hy⟩ := y
        obtain ⟨r, er, dv⟩ := getV_map tr1 hy
        obtain ⟨pr, zs, rfl, hpr, tz⟩ := Dq.lstE dv
        obtain rfl := dq_natsE tz
        have hpr' : H' pr = some (.lst (r.map fun n => V.int (n : Nat))) := g.keep _ _ (g4.sub _ _ hpr)
        have hrl := mergeF_mem _ _ _ r (Nat.le_refl _) (List.mem_of_getElem? er)
        refine ⟨rfl, _, rfl, pa, _, _, V.int (a0 : Nat), rfl, rfl, g.keep _ _ (g34.keep _ _ (sG _ _ ha)), atI_nat (j := 0) rfl, _, rfl, pr, _, rfl, .inl hpr', small (by simp only [List.length_cons, List.length_append, List.length_map, List.length_nil] at hrl ⊢; omega), fun z hz => ?_⟩
        refine ok _ (upd Gi z _) _ (natsD (a0 :: r)) ((Gr.refl g.sub).fr hz) (newL (g.sub.free hz) (.cons (.int _) ?_)) ?_
        · show DqAll Gi ((r.map fun n => V.int (n : Nat)) ++ []) _
          rw [List.append_nil]
          exact dq_nats
        · show ((mergeF (as.length + (b0 :: bs).length) as (b0 :: bs))[i]?).map _ = _
          rw [er]
          rfl
      · rw [hrl1, made_map] at dq
        obtain ⟨D', ds, e1, hDs, tD⟩ := dq.lstE
        cases e1
        have g56 := g6
        refine ⟨_, rfl, _, rfl, _, rfl, _, rfl, pb, _, rfl, g5.sub _ _ (g5.ext _ _ hb'), fun q2 hq2 => ?_⟩
        rw [cut1]
        have g7 := g5.fr (o := .lst ((List.map (fun n => V.int (n : Nat)) (b0 :: bs)).drop 1)) hq2
        refine ⟨_, .ref pa, .ref q2, a0 :: as, bs, rfl, g7.sub, hv.of g7.ext, newL (g5.sub.free hq2) (by exact dq_nats), by simp only [List.length_cons]; omega, fun x2 G8 H8 g8 d8 => ?_⟩
        obtain ⟨r2, rs2, rfl, hr2, tr2⟩ := d8.lstE
        have g78 := g7.trans g8
        have hrl2 : rs2.length = (mergeF ((a0 :: as).length + bs.length) (a0 :: as) bs).length := by rw [tr2.length, List.length_map]
        have hm2 : rs2.length ≤ 32768 := by
          rw [hrl2]
          refine Nat.le_trans (mergeF_len _ _ _ (Nat.le_refl _)) ?_
          have : (a0 :: as).length + bs.length ≤ 15 := by simp only [List.length_cons]; omega
          exact Nat.le_trans (Nat.pow_le_pow_right (by decide) this) (by decide)
        have sD : Same G5 G8 := (same_upd (g5.sub.free hq2)).trans g8.ext
        refine ⟨r2, rfl, ⟨_, sqL (g8.sub _ _ hr2)⟩, fun E2 hE2 => ?_⟩
        refine lcD (G := G) (G1 := G8) (fun i => ((mergeF ((a0 :: as).length + bs.length) (a0 :: as) bs)[i]?).map fun r => natsD (b0 :: r)) (walkL (K := K) (a := r2) (xs := rs2)) (by omega) g78 (fun Gi Hi g => g.keep _ _ (g8.sub _ _ hr2)) hE2 (fun i x Gi Hi H' Ok No hi g y ok no => ?_) fun G9 H9 g9 g10 dq2 => ?_
        · obtain ⟨rfl, hy⟩ := y
          obtain ⟨r, er, dv⟩ := getV_map tr2 hy
          obtain ⟨pr, zs, rfl, hpr, tz⟩ := Dq.lstE dv
          obtain rfl := dq_natsE tz
          have hpr' : H' pr = some (.lst (r.map fun n => V.int (n : Nat))) := g.keep _ _ (g8.sub _ _ hpr)
          have hrl := mergeF_mem _ _ _ r (Nat.le_refl _) (List.mem_of_getElem? er)
          refine ⟨rfl, _, rfl, pb, _, _, V.int (b0 : Nat), rfl, rfl, g.keep _ _ (g78.keep _ _ (sG _ _ hb')), atI_nat (j := 0) rfl, _, rfl, pr, _, rfl, .inl hpr', small (by simp only [List.length_cons, List.length_append, List.length_map, List.length_nil] at hrl ⊢; omega), fun z hz => ?_⟩
          refine ok _ (upd Gi z _) _ (natsD (b0 :: r)) ((Gr.refl g.sub).fr hz) (newL (g.sub.free hz) (.cons (.int _) ?_)) ?_
          · show DqAll Gi ((r.map fun n => V.int (n : Nat)) ++ []) _
            rw [List.append_nil]
            exact dq_nats
          · show ((mergeF ((a0 :: as).length + bs.length) (a0 :: as) bs)[i]?).map _ = _
            rw [er]
            rfl
        · rw [hrl2, made_map] at dq2
          obtain ⟨E2', es, e2, hEs, tE⟩ := dq2.lstE
          cases e2
          have hDs9 : G9 D = some (.lst ds) := g10.ext _ _ (sD _ _ hDs)
          refine ⟨D, E2, ds, es, rfl, rfl, g9.sub _ _ hDs9, g9.sub _ _ hEs, small (by rw [tD.length, tE.length, List.length_map, List.length_map, ← hrl1, ← hrl2]; omega), fun z hz => ?_⟩
          refine k _ (upd G9 z (.lst (ds ++ es))) _ (g9.fr hz) (newL (g9.sub.free hz) ?_)
          have e3 : (mergeF ((a0 :: as).length + (b0 :: bs).length) (a0 :: as) (b0 :: bs)).map natsD = ((mergeF (as.length + (b0 :: bs).length) as (b0 :: bs)).map fun r => natsD (a0 :: r)) ++ ((mergeF ((a0 :: as).length + bs.length) (a0 :: as) bs).map fun r => natsD (b0 :: r)) := by
            have e4 : (a0 :: as).length + (b0 :: bs).length = ((a0 :: as).length + bs.length) + 1 := rfl
            rw [e4]
            show ((mergeF ((a0 :: as).length + bs.length) as (b0 :: bs)).map (a0 :: ·) ++ (mergeF ((a0 :: as).length + bs.length) (a0 :: as) bs).map (b0 :: ·)).map natsD = _
            have e5 : (a0 :: as).length + bs.length = as.length + (b0 :: bs).length := by simp only [List.length_cons]; omega
            rw [List.map_append, List.map_map, List.map_map]
            congr 1
            rw [e5]
            rfl
          rw [e3]
          exact (tD.of (sD.trans g10.ext)).append tE
end
end HT7
end partW11
section partW12
set_option Elab.async false
set_option linter.all false
set_option maxRecDepth 100000
namespace HT7
open PySem PySem.Spec PyProof.Rows L2 HT5 HT6
theorem inV_ints (k : Int) (half : List Int) : inV (V.int k) (half.map V.int) = half.contains k := by
  unfold inV
  induction half with
  | nil => rfl
  | cons a r ih =>
    rw [List.map_cons, List.any_cons, ih, List.contains_cons]
    congr 1
    show (a == k) = (k == a)
    rw [Bool.eq_iff_iff, beq_iff_eq, beq_iff_eq]
    exact eq_comm
theorem flat_ints (half : List Int) : (half.map V.int).all flatV = true := by
  rw [List.all_eq_true]
  intro v hv
  obtain ⟨i, _, rfl⟩ := List.mem_map.mp hv
  rfl
theorem enumL_drop {α : Type} : ∀ (l : List α) (n i : Nat), (enumL n l).drop i = enumL (n + i) (l.drop i)
  | l, n, 0 => rfl
  | [], n, i + 1 => by simp [enumL]
  | x :: r, n, i + 1 => by
    show (enumL (n + 1) r).drop i = enumL (n + (i + 1)) (r.drop i)
    rw [enumL_drop r (n + 1) i]
    congr 1
    omega
section
variable {P : Program} {w : World} {K : PySem.W.Frag} {mg : Str → Option Value} {base : Heap}
abbrev sarrival_bounds : Stmt := top 52
abbrev Narrival_bounds : List PySem.Str := ["record", "keys", "row", "begin", "late", "found", "place", "number", "tick"]
abbrev Parrival_bounds : List PySem.Str := ["record", "keys", "row"]
theorem scarrival_bounds : FnScope Narrival_bounds Parrival_bounds (defScope sarrival_bounds) := ⟨rfl, rfl, rfl, by decide +kernel, rfl, by decide +kernel, by decide +kernel⟩
theorem ok_arrival_bounds {f : Addr} {fd : FuncData} (F : Fun K "arrival_bounds" "arrival_bounds" sarrival_bounds f fd) (B : Bt mg) : FnOk P w K mg base CX0 1 f fd Parrival_bounds sp_arrival_bounds := by
  refine F.ok scarrival_bounds (fun vs H Q E h => ?_) (fun cdv A outer s H vs Q E hr h => ?_)
  · obtain ⟨G, v, u, x, R, half, row, rfl, _⟩ := h
    rfl
  · obtain ⟨G, v, u, x, R, half, row, rfl, sG, hv, hu, hx, hrow, hlen, k⟩ := h
    have nd := scarrival_bounds.nd
    obtain ⟨pa, xs, rfl, ha, ta⟩ := Dq.lstE hv
    obtain ⟨pb, ys, rfl, hb, tb⟩ := Dq.lstE hu
    obtain ⟨pc, zs, rfl, hc, tc⟩ := Dq.lstE hx
    obtain rfl := dp_intsE tb
    obtain rfl := dq_natsE tc
    have rlen : (row.map fun n => V.int ((n : Nat) : Int)).length = row.length := List.length_map _
    have row_at : ∀ {i : Nat}, i < row.length → (row.map fun n => V.int ((n : Nat) : Int))[i]? = some (.int ((row.getD i 0 : Nat) : Int)) := fun {i} h => by simp [h]
    refine ⟨_, (pss_cons (ps_par (i := 3) (j := 4) (by rfl) nd rfl rfl (by decide) rfl rfl (pa_cons (pe_callB lenLq (by rfl) B.len (by decide +kernel) (pa_cons (pv 2) pa_nil)) (pa_cons (pe_op op_add (pe_callB lenLq (by rfl) B.len (by decide +kernel) (pa_cons (pv 2) pa_nil)) pe_int) pa_nil)) (by rfl))
    (pss_cons (ps_setLc (i := 5) (own := [("place", 6)]) rfl nd rfl rfl (sw_true rfl rfl rfl (by decide +kernel)) (pi_range1 rfl B.range (pa_cons (pe_op op_sub (pe_callB lenLq (by rfl) B.len (by decide +kernel) (pa_cons (pv 2) pa_nil)) pe_int) pa_nil)) (blkOk_by (own := [("place", 6)]) (N := Narrival_bounds) (sc := defScope sarrival_bounds) (by decide +kernel)) (fun _ _ _ _ _ => (pg_name (i := 6) nd rfl (Or.inl rfl))) (fun _ _ _ _ _ => pts_nil) (fun _ _ _ _ _ => (pe_tup (pa_cons (pv 6) (pa_cons (pe_op op_add (pv 6) pe_int) (pa_cons (pe_callTy call_int1 (by rfl) B.int (by decide +kernel) (pa_cons (pe_cmpR op_gt (pe_ix ixlq (pv 2) (pv 6) (fun _ _ => rfl)) (pe_ix ixlq (pv 2) (pe_op op_add (pv 6) pe_int) (fun _ _ => rfl)) (by first | exact nomark _ | rfl)) pa_nil)) pa_nil))))))
    (pss_cons (ps_for PassesOwn.never rfl (pi_enum (by rfl) B.enumerate (pa_cons (pv 2) pa_nil)) (pg_tupq (n := 2) rfl (pgs_cons (pg_name (i := 6) nd rfl (Or.inl rfl)) (pgs_cons (pg_name (i := 7) nd rfl (Or.inl rfl)) pgs_nil))) (pss_cons (ps_set (i := 8) nd rfl (Or.inl rfl) (pe_op op_sub (pe_ix ixtq (pe_ix ixlq (pv 0) (pv 7) (fun _ _ => rfl)) pe_int (fun _ _ => rfl)) (pe_ix ixtq (pe_ix ixlq (pv 0) pe_int (fun _ _ => rfl)) pe_int (fun _ _ => rfl))))
    (pss_cons (ps_expr (pe_bm PySem.F.plainAttrs_list PySem.F.slot_list_append PySem.F.type_list_append mt_append (pv 5) (pa_cons (pe_tup (pa_cons (pv 3) (pa_cons (pv 6) (pa_cons (pv 8) pa_nil)))) pa_nil)))
    (pss_one (ps_expr (pe_bm PySem.F.plainAttrs_list PySem.F.slot_list_append PySem.F.type_list_append mt_append (pv 5) (pa_cons (pe_tup (pa_cons (pv 6) (pa_cons (pe_ifExp (pt_cmpR inLq (pe_ix ixtq (pe_ix ixlq (pv 0) (pv 7) (fun _ _ => rfl)) pe_int (fun _ _ => rfl)) (pv 1) (by first | exact nomark _ | rfl)) (pv 4) (pv 3)) (pa_cons (pe_un un_neg (pv 8)) pa_nil)))) pa_nil)))))))
    (pss_one (ps_ret (pv 5)))))), ?_⟩
    refine ⟨_, rfl, pc, _, rfl, sG _ _ hc, _, rfl, pc, _, rfl, sG _ _ hc, _, _, rfl, rfl, _, _, rfl, ?_⟩
    refine ⟨_, rfl, pc, _, rfl, sG _ _ hc, _, _, rfl, rfl, _, rfl, by rw [rlen]; omega, by rw [rlen]; omega, fun D hD => ?_⟩
    have hDG : G D = none := sG.free hD
    rw [rlen]
    refine lcRt (R := fun G v d => Dq G v d) (G1 := G) (fun i => some (bdD (i, i + 1, if row.getD i 0 > row.getD (i + 1) 0 then 1 else 0))) (fun _ _ _ _ e h => Dq.mono e h) (walk_range (lo := 0) (n := ((row.length : Int) - 1).toNat)) (by omega) sG (fun _ _ _ => trivial) hD (fun i y Gi Hi H' Ok No hi g yy ok no => ?_) fun G1 H1 acc g1 hD1 gD1 ra => ?_
    · obtain ⟨rfl, hy⟩ := yy
      obtain rfl : y = V.int (i : Nat) := hy.trans (congrArg V.int (by omega))
      have h1 : i < row.length := by omega
      have h2 : i + 1 < row.length := by omega
      have hc1 := g.keep _ _ (sG _ _ hc)
      refine ⟨rfl, _, rfl, _, rfl, _, _, rfl, rfl, _, rfl, _, rfl, pc, _, _, _, rfl, rfl, hc1, atI_nat (row_at h1), ?_⟩
      refine ⟨_, rfl, _, rfl, _, _, rfl, rfl, pc, _, _, V.int ((row.getD (i + 1) 0 : Nat) : Int), rfl, rfl, hc1, ?_, _, _, rfl, rfl, .inr ⟨_, rfl, by show 3 ≤ sizeLine; decide, fun z hz => ?_⟩⟩
      · have e : ((i : Nat) : Int) + 1 = ((i + 1 : Nat) : Int) := by omega
        rw [e]
        exact atI_nat (row_at h2)
      · refine ok _ (upd Gi z _) _ (bdD (i, i + 1, if row.getD i 0 > row.getD (i + 1) 0 then 1 else 0)) ((Gr.refl g.sub).fr hz) (newT (g.sub.free hz) (.three (.int _) ?_ ?_)) rfl
        · have e : ((i : Nat) : Int) + 1 = ((i + 1 : Nat) : Int) := by omega
          show Dq Gi (V.int (((i : Nat) : Int) + 1)) (.int ((i + 1 : Nat) : Int))
          rw [e]
          exact .int _
        · by_cases hgt : row.getD i 0 > row.getD (i + 1) 0
          · have e : decide (((row.getD (i + 1) 0 : Nat) : Int) < ((row.getD i 0 : Nat) : Int)) = true := decide_eq_true (by omega)
            rw [if_pos hgt]
            show Dq Gi (V.int (if decide (((row.getD (i + 1) 0 : Nat) : Int) < ((row.getD i 0 : Nat) : Int)) = true then 1 else 0)) _
            rw [e]
            exact .int _
          · have e : decide (((row.getD (i + 1) 0 : Nat) : Int) < ((row.getD i 0 : Nat) : Int)) = false := decide_eq_false (by omega)
            rw [if_neg hgt]
            show Dq Gi (V.int (if decide (((row.getD (i + 1) 0 : Nat) : Int) < ((row.getD i 0 : Nat) : Int)) = true then 1 else 0)) _
            rw [e]
            exact .int _
    · have e1 : made (fun i => some (bdD (i, i + 1, if row.getD i 0 > row.getD (i + 1) 0 then 1 else 0))) ((row.length : Int) - 1).toNat = (mChain row).map bdD := by
        rw [made_all]
        unfold mChain
        rw [List.map_map]
        have : ((row.length : Int) - 1).toNat = row.length - 1 := by omega
        rw [this]
        rfl
      rw [e1] at ra
      refine ⟨_, rfl, pc, _, rfl, sqL (g1.keep _ _ (sG _ _ hc)), ?_⟩
      refine for_it (walkE (K := K) (a := pc) (xs := row.map fun n => V.int ((n : Nat) : Int))) (fun i σ H' => ∃ v6 v7 v8 Gi acc done, σ = [some (.ref pa), some (.ref pb), some (.ref pc), some (.int (row.length : Nat)), some (.int ((row.length : Nat) + 1)), some (.ref D), v6, v7, v8] ∧ Gr G H Gi H' ∧ H' D = some (.lst acc) ∧ Gi D = none ∧ DqAll Gi acc (done.map bdD) ∧ done.length ≤ row.length + 2 * i ∧ done ++ (enumL i (row.drop i)).flatMap (place2 R half row.length) = arrBounds R half row)
        ⟨none, none, none, G1, acc, mChain row, rfl, g1, hD1, gD1, ra.dp, by unfold mChain; rw [List.length_map, List.length_range]; omega, rfl⟩ (fun i σ H' _ h => ?_) (fun i y σ H2 H3 hi h yy => ?_) fun σ H2 h => ?_
      · obtain ⟨_, _, _, _, _, _, _, g, _⟩ := h
        exact g.keep _ _ (sG _ _ hc)
      · obtain ⟨v6, v7, v8, Gi, acc, done, rfl, g, hD2, gD, hacc, hdl, hdone⟩ := h
        obtain ⟨T, x1, y1, rfl, hT, rfl, e2, e3⟩ := yy
        cases e2
        have hi2 : i < row.length := by rw [rlen] at hi; exact hi
        have e3 := e3.symm.trans (row_at hi2)
        cases e3
        have hnR : row.getD i 0 < R.length := by
          have : row.getD i 0 = row[i]'hi2 := by simp [hi2]
          rw [this]
          exact hrow _ (List.getElem_mem _)
        have edr : row.drop i = row.getD i 0 :: row.drop (i + 1) := by
          rw [List.drop_eq_getElem_cons hi2]
          simp [hi2]
        generalize row.getD i 0 = num at hnR edr ⊢
        rw [edr] at hdone
        obtain ⟨er, ek, et⟩ := ev_get hnR
        obtain ⟨pe, hxe, hpe⟩ := ev_at ta er
        have h0R : 0 < R.length := by omega
        obtain ⟨er0, _, et0⟩ := ev_get h0R
        obtain ⟨p0, hx0, hp0⟩ := ev_at ta er0
        have gT : Gr G H Gi (upd H2 T (.tup [.int (i : Nat), .int (num : Nat)])) := g.tmp hT
        have nDT : D ≠ T := ne_of_none hD2 hT
        have hDT : (upd H2 T (.tup [.int (i : Nat), .int (num : Nat)])) D = some (.lst acc) := by rw [upd_ne nDT]; exact hD2
        have hTT : (upd H2 T (.tup [.int (i : Nat), .int (num : Nat)])) T = some (.tup [.int (i : Nat), .int (num : Nat)]) := upd_same
        generalize upd H2 T (.tup [.int (i : Nat), .int (num : Nat)]) = HT at gT hDT hTT ⊢
        have pk : ∀ {a o}, G a = some o → HT a = some o := fun h => gT.keep _ _ (sG _ _ h)
        have hal : acc.length = done.length := by rw [hacc.length, List.length_map]
        refine ⟨T, _, rfl, hTT, rfl, _, _, rfl, _, _, rfl, rfl, ?_⟩
        refine ⟨_, rfl, _, rfl, pa, xs, _, V.ref pe, rfl, rfl, pk ha, atI_nat hxe, pe, _, _, _, rfl, rfl, pk hpe, atI_nat (j := 0) rfl, ?_⟩
        refine ⟨_, rfl, pa, xs, _, V.ref p0, rfl, rfl, pk ha, atI_nat (j := 0) hx0, p0, _, _, _, rfl, rfl, pk hp0, atI_nat (j := 0) rfl, _, _, rfl, rfl, ?_⟩
        have eoff : (R[num]'hnR).tick - (R[0]'h0R).tick = mOff R num := by unfold mOff; rw [et, et0]
        dsimp only
        rw [eoff]
        refine ⟨_, rfl, .inl ⟨rfl, acc, sqL hDT⟩, _, rfl, _, rfl, _, rfl, by show 3 ≤ sizeLine; decide, fun z hz => ?_⟩
        have gz : Gr G H (upd Gi z (.tup [.int (row.length : Nat), .int (i : Nat), .int (mOff R num)])) (upd HT z (.tup [.int (row.length : Nat), .int (i : Nat), .int (mOff R num)])) := gT.fr hz
        have nDz : D ≠ z := ne_of_none hDT hz
        have d1 : Dq (upd Gi z (.tup [.int (row.length : Nat), .int (i : Nat), .int (mOff R num)])) (.ref z) (bdD (row.length, i, mOff R num)) := newT (gT.sub.free hz) (.three (.int _) (.int _) (.int _))
        have gDz : (upd Gi z (.tup [.int (row.length : Nat), .int (i : Nat), .int (mOff R num)])) D = none := by rw [upd_ne nDz]; exact gD
        have hDz : (upd HT z (.tup [.int (row.length : Nat), .int (i : Nat), .int (mOff R num)])) D = some (.lst acc) := by rw [upd_ne nDz]; exact hDT
        have haz : DqAll (upd Gi z (.tup [.int (row.length : Nat), .int (i : Nat), .int (mOff R num)])) acc (done.map bdD) := hacc.of (same_upd (gT.sub.free hz))
        generalize upd Gi z (.tup [.int (row.length : Nat), .int (i : Nat), .int (mOff R num)]) = Gz at gz d1 gDz haz ⊢
        generalize upd HT z (.tup [.int (row.length : Nat), .int (i : Nat), .int (mOff R num)]) = Hz at gz hDz ⊢
        refine ⟨D, acc, .ref z, rfl, rfl, hDz, small1000 (by omega), ?_⟩
        have hDH : H D = none := hD
        have g5 : Gr G H Gz (upd Hz D (.lst (acc ++ [.ref z]))) := gz.set hDH gDz
        have hD5 : (upd Hz D (.lst (acc ++ [.ref z]))) D = some (.lst (acc ++ [.ref z])) := upd_same
        generalize upd Hz D (.lst (acc ++ [.ref z])) = H5 at g5 hD5 ⊢
        have pk5 : ∀ {a o}, G a = some o → H5 a = some o := fun h => g5.keep _ _ (sG _ _ h)
        refine ⟨_, rfl, .inl ⟨rfl, _, sqL hD5⟩, _, rfl, ?_⟩
        refine ⟨_, rfl, _, rfl, pa, xs, _, V.ref pe, rfl, rfl, pk5 ha, atI_nat hxe, pe, _, _, _, rfl, rfl, pk5 hpe, atI_nat (j := 1) rfl, ?_⟩
        refine ⟨_, rfl, pb, _, rfl, pk5 hb, rfl, flat_ints half, _, rfl, ?_⟩
        rw [inV_ints]
        have eh : half.contains (R[num]'hnR).key = inHalf half R num := by unfold inHalf; rw [ek]
        rw [eh]
        have fin : ∀ (lv : Nat), lv = (if inHalf half R num then row.length + 1 else row.length) → ∃ i', V.int (mOff R num) = .int i' ∧ ([V.int (i : Nat), .int (lv : Nat), .int (-i')].length ≤ sizeLine ∧ ∀ p, H5 p = none → ∃ l xs' y, V.ref D = .ref l ∧ [V.ref p] = [y] ∧ (upd H5 p (.tup [V.int (i : Nat), .int (lv : Nat), .int (-i')])) l = some (.lst xs') ∧ xs'.length < sizeLine ∧
            ∃ v6 v7 v8 Gi acc done, [some (V.ref pa), some (.ref pb), some (.ref pc), some (.int (row.length : Nat)), some (.int ((row.length : Nat) + 1)), some (.ref D), some (.int (i : Nat)), some (.int (num : Nat)), some (.int (mOff R num))] = [some (.ref pa), some (.ref pb), some (.ref pc), some (.int (row.length : Nat)), some (.int ((row.length : Nat) + 1)), some (.ref D), v6, v7, v8] ∧ Gr G H Gi (upd (upd H5 p (.tup [V.int (i : Nat), .int (lv : Nat), .int (-i')])) l (.lst (xs' ++ [y]))) ∧ (upd (upd H5 p (.tup [V.int (i : Nat), .int (lv : Nat), .int (-i')])) l (.lst (xs' ++ [y]))) D = some (.lst acc) ∧ Gi D = none ∧ DqAll Gi acc (done.map bdD) ∧ done.length ≤ row.length + 2 * (i + 1) ∧ done ++ (enumL (i + 1) (row.drop (i + 1))).flatMap (place2 R half row.length) = arrBounds R half row) := fun lv hlv => by
          refine ⟨_, rfl, by show 3 ≤ sizeLine; decide, fun p hp => ?_⟩
          have nDp : D ≠ p := ne_of_none hD5 hp
          have gp : Gr G H (upd Gz p (.tup [.int (i : Nat), .int (lv : Nat), .int (-mOff R num)])) (upd H5 p (.tup [.int (i : Nat), .int (lv : Nat), .int (-mOff R num)])) := g5.fr hp
          have gpn : Gz p = none := g5.sub.free hp
          refine ⟨D, acc ++ [.ref z], .ref p, rfl, rfl, by rw [upd_ne nDp]; exact hD5, small1000 (by simp; omega), some (.int (i : Nat)), some (.int (num : Nat)), some (.int (mOff R num)), upd Gz p (.tup [.int (i : Nat), .int (lv : Nat), .int (-mOff R num)]), acc ++ [.ref z] ++ [.ref p], done ++ [(row.length, i, mOff R num)] ++ [(i, lv, -mOff R num)], rfl, gp.set hDH (by rw [upd_ne nDp]; exact gDz), upd_same, by rw [upd_ne nDp]; exact gDz, ?_, by simp; omega, ?_⟩
          · rw [List.map_append, List.map_append]
            exact ((haz.append (.one d1)).of (same_upd gpn)).append (.one (newT gpn (.three (.int _) (.int _) (.int _))))
          · rw [← hdone, hlv]
            show _ = done ++ (place2 R half row.length (i, num) ++ (enumL (i + 1) (row.drop (i + 1))).flatMap (place2 R half row.length))
            simp [place2]
        refine iteB (fun h => ?_) fun h => ?_
        · have z := fin (row.length + 1) (by rw [h]; rfl)
          rw [Int.natCast_add] at z
          exact ⟨_, rfl, _, rfl, z⟩
        · have z := fin row.length (by rw [h]; rfl)
          exact ⟨_, rfl, _, rfl, z⟩
      · obtain ⟨v6, v7, v8, Gi, acc, done, rfl, g, hD2, gD, hacc, hdl, hdone⟩ := h
        have e4 : row.drop (row.map fun n => V.int ((n : Nat) : Int)).length = [] := List.drop_eq_nil_of_le (by rw [rlen]; exact Nat.le_refl _)
        rw [e4] at hdone
        have hdone2 : done = arrBounds R half row := by rw [← hdone]; simp [enumL]
        subst hdone2
        refine ⟨_, rfl, ?_⟩
        exact k _ (upd Gi D (.lst acc)) _ (g.freeze hD hD2) (ls upd_same (hacc.of (same_upd gD)))
end
end HT7
end partW12
section partW13
set_option Elab.async false
set_option linter.all false
set_option maxRecDepth 100000
namespace HT7
open PySem PySem.Spec PyProof.Rows L2 HT5 HT6
/-! ### a way -/
structure WyC (K : PySem.W.Frag) (C : Addr) : Prop where
  cl : Cls K C
  nP : NoAttr K C "kept_player"
  nB : NoAttr K C "kept_bounds"
  nT : NoAttr K C "kept_ticks"
  nC : NoAttr K C "kept_choice"
  nR : NoAttr K C "kept_result"
def wyF (p b t c r : Addr) : List (PySem.Str × V) := [("kept_player", .ref p), ("kept_bounds", .ref b), ("kept_ticks", .ref t), ("kept_choice", .ref c), ("kept_result", .ref r)]
theorem putw_choice {p b t c r e : Addr} : putF "kept_choice" (.ref e) (wyF p b t c r) = wyF p b t e r := by
  simp only [wyF, putF]
  rw [if_neg (by decide +kernel), if_neg (by decide +kernel), if_neg (by decide +kernel), if_pos trivial]
theorem putw_result {p b t c r e : Addr} : putF "kept_result" (.ref e) (wyF p b t c r) = wyF p b t c e := by
  simp only [wyF, putF]
  rw [if_neg (by decide +kernel), if_neg (by decide +kernel), if_neg (by decide +kernel), if_neg (by decide +kernel), if_pos trivial]
theorem putw_player {p b t c r e : Addr} : putF "kept_player" (.ref e) (wyF p b t c r) = wyF e b t c r := by
  simp only [wyF, putF]
  rw [if_pos trivial]
theorem putw_bounds {p b t c r e : Addr} : putF "kept_bounds" (.ref e) (wyF p b t c r) = wyF p e t c r := by
  simp only [wyF, putF]
  rw [if_neg (by decide +kernel), if_pos trivial]
theorem putw_ticks {p b t c r e : Addr} : putF "kept_ticks" (.ref e) (wyF p b t c r) = wyF p b e c r := by
  simp only [wyF, putF]
  rw [if_neg (by decide +kernel), if_neg (by decide +kernel), if_pos trivial]
theorem lw_player {p b t c r : Addr} : (wyF p b t c r).lookup ("kept_player" : PySem.Str) = some (.ref p) := by
  rw [← putw_player (p := p) (e := p), lookup_putF, if_pos rfl]
theorem lw_bounds {p b t c r : Addr} : (wyF p b t c r).lookup ("kept_bounds" : PySem.Str) = some (.ref b) := by
  rw [← putw_bounds (b := b) (e := b), lookup_putF, if_pos rfl]
theorem lw_ticks {p b t c r : Addr} : (wyF p b t c r).lookup ("kept_ticks" : PySem.Str) = some (.ref t) := by
  rw [← putw_ticks (t := t) (e := t), lookup_putF, if_pos rfl]
theorem lw_choice {p b t c r : Addr} : (wyF p b t c r).lookup ("kept_choice" : PySem.Str) = some (.ref c) := by
  rw [← putw_choice (c := c) (e := c), lookup_putF, if_pos rfl]
theorem lw_result {p b t c r : Addr} : (wyF p b t c r).lookup ("kept_result" : PySem.Str) = some (.ref r) := by
  rw [← putw_result (r := r) (e := r), lookup_putF, if_pos rfl]
theorem lw_other {p b t c r : Addr} {f : PySem.Str} (h : (decide (f = "kept_player") || decide (f = "kept_bounds") || decide (f = "kept_ticks") || decide (f = "kept_choice") || decide (f = "kept_result")) = false) : (wyF p b t c r).lookup f = none := by
  simp only [Bool.or_eq_false_iff, decide_eq_false_iff_not] at h
  obtain ⟨⟨⟨⟨h1, h2⟩, h3⟩, h4⟩, h5⟩ := h
  simp only [wyF, List.lookup_cons, List.lookup_nil, beq_false_of_ne h1, beq_false_of_ne h2, beq_false_of_ne h3, beq_false_of_ne h4, beq_false_of_ne h5]
/-- where a way's own parts stand -/
structure Own where
  wy : Addr
  p : Addr
  dl : Addr
  db : Addr
def Own.has (o : Own) (a : Addr) : Prop := a = o.wy ∨ own3 o.p o.dl o.db a
structure WyAt (Cw Cp : Addr) (G H : Hp) (o : Own) (L : Lay) (w : Wy) : Prop where
  ob : ∃ dx b t c r, H o.wy = some (.ins Cw dx (wyF o.p b t c r)) ∧ Dq G (.ref b) (.list (w.bounds.map bdD)) ∧ Dq G (.ref t) (intsD w.ticks) ∧ Dq G (.ref c) (.tuple (w.choice.map PyData.str)) ∧ Dq G (.ref r) (.list (w.res.map outD))
  gw : G o.wy = none
  pl : PlAt Cp G H o.p o.dl o.db L w.pl
  nwp : o.wy ≠ o.p
theorem WyAt.keep {Cw Cp : Addr} {G H G' H' : Hp} {o : Own} {L : Lay} {w : Wy} (h : WyAt Cw Cp G H o L w) (e : Same G G') (k : ∀ a x, o.has a → H a = some x → H' a = some x) (n : ∀ a, o.has a → G' a = none) : WyAt Cw Cp G' H' o L w := by
  obtain ⟨dx, b, t, c, r, h1, h2, h3, h4, h5⟩ := h.ob
  exact ⟨⟨dx, b, t, c, r, k _ _ (.inl rfl) h1, h2.of e, h3.of e, h4.of e, h5.of e⟩, n _ (.inl rfl), h.pl.keep e (fun a x ha hx => k a x (.inr ha) hx) (fun a ha => n a (.inr ha)), h.nwp⟩
theorem WyAt.none_of {Cw Cp : Addr} {G H : Hp} {o : Own} {L : Lay} {w : Wy} (h : WyAt Cw Cp G H o L w) {a : Addr} (e : o.has a) : G a = none := by
  rcases e with rfl | e
  · exact h.gw
  · exact h.pl.none_of e
theorem WyAt.some_of {Cw Cp : Addr} {G H : Hp} {o : Own} {L : Lay} {w : Wy} (h : WyAt Cw Cp G H o L w) {a : Addr} (e : o.has a) : ∃ x, H a = some x := by
  rcases e with rfl | e
  · obtain ⟨_, _, _, _, _, z, _⟩ := h.ob
    exact ⟨_, z⟩
  · exact h.pl.some_of e
theorem WyAt.gr {Cw Cp : Addr} {G H G' H' : Hp} {o : Own} {L : Lay} {w : Wy} (h : WyAt Cw Cp G H o L w) (g : Gr G H G' H') : WyAt Cw Cp G' H' o L w :=
  h.keep g.ext (fun a x _ e => g.keep a x e) fun a e => by
    obtain ⟨x, hx⟩ := h.some_of e
    exact g.out hx (h.none_of e)
theorem WyAt.grP {P : Addr → Prop} {Cw Cp : Addr} {G H G' H' : Hp} {o : Own} {L : Lay} {w : Wy} (h : WyAt Cw Cp G H o L w) (g : GrP P G H G' H') (d : ∀ a, o.has a → ¬ P a) : WyAt Cw Cp G' H' o L w :=
  h.keep g.ext (fun a x ha e => g.keep a x (d a ha) e) fun a e => by
    obtain ⟨x, hx⟩ := h.some_of e
    exact GrP.out g hx (h.none_of e)
/-- what a call with a way may lean on -/
structure WyOk (L : Lay) (w : Wy) (m : Nat) : Prop where
  bd : BdOk L w.pl
  sz : w.pl.size ≤ m
  tl : w.ticks.length ≤ 100
  bi : BdIn w.ticks.length w.bounds
  bl : w.bounds.length ≤ 400 + m
  cl : w.choice.length ≤ m
  rl : w.res.length ≤ m
def sp_Way_init (Cw : Addr) : Sp := fun vs H Q _ => ∃ (G : Hp) (x dx p b t : Addr), vs = [.ref x, .ref p, .ref b, .ref t] ∧ Same G H ∧ H x = some (.ins Cw dx []) ∧ G x = none ∧
  ∀ G' H' c r, Same G' H' → Same G G' → (∀ a o, a ≠ x → H a = some o → H' a = some o) → (∀ a, G' a ≠ none → G a = none → H a = none) → H' x = some (.ins Cw dx (wyF p b t c r)) → Dq G' (.ref c) (.tuple []) → Dq G' (.ref r) (.list []) → Q .non H'
def sp_plain_step (Cp : Addr) : Sp := fun vs H Q _ => ∃ (G : Hp) (p dl db : Addr) (L : Lay) (st : Pl) (s : Stp), vs = [.ref p, .int s.1, .str (wayS s.2)] ∧ Same G H ∧ PlAt Cp G H p dl db L st ∧ LayOk L ∧ BdOk L st ∧ st.size ≤ 500 ∧ (0 ≤ s.1 ∧ s.1 < mWide L) ∧
  ∀ v G' H', GrP (own3 p dl db) G H G' H' → PlAt Cp G' H' p dl db L (mPlain L st s).2 → Dq G' v (outD (mPlain L st s).1) → Q v H'
def sp_Way_play (Cw Cp : Addr) : Sp := fun vs H Q _ => ∃ (G : Hp) (o : Own) (L : Lay) (w : Wy) (s : Stp), vs = [.ref o.wy, .int s.1, .str (wayS s.2)] ∧ Same G H ∧ WyAt Cw Cp G H o L w ∧ LayOk L ∧ WyOk L w 400 ∧ (0 ≤ s.1 ∧ s.1 < mWide L) ∧
  ∀ G' H', GrP o.has G H G' H' → WyAt Cw Cp G' H' o L (mPlay L w s) → Q .non H'
def sp_Way_turned (Cw Cp : Addr) : Sp := fun vs H Q _ => ∃ (G : Hp) (o : Own) (L : Lay) (w : Wy) (key : Int) (tap : Bool) (v : V) (b : Bd), vs = [.ref o.wy, .int key, .str (tapS tap), v] ∧ Same G H ∧ WyAt Cw Cp G H o L w ∧ LayOk L ∧ WyOk L w 400 ∧ (0 ≤ key ∧ key < mWide L) ∧ Dq G v (bdD b) ∧ BdIn w.ticks.length [b] ∧
  (mTurned L w key tap b = none → ∀ G' H', Gr G H G' H' → Q .non H') ∧ (∀ w' G' H' o', mTurned L w key tap b = some w' → Gr G H G' H' → (∀ a, o'.has a → H a = none) → WyAt Cw Cp G' H' o' L w' → Q (.ref o'.wy) H')
def choiceD : Option (Nat × Int) → PyData
  | none => .none
  | some (q, t) => .tuple [.int (q : Nat), .int t]
def sp_choice_at (Cp : Addr) : Sp := fun vs H Q _ => ∃ (G : Hp) (v : V) (S : List Stp) (n : Nat) (p dl db : Addr) (L : Lay) (st : Pl), vs = [v, .int (n : Nat), .ref p] ∧ Same G H ∧ Dq G v (.list (S.map stpD)) ∧ n < S.length ∧ S.length ≤ 400 ∧ PlAt Cp G H p dl db L st ∧ LayOk L ∧ BdOk L st ∧ st.size ≤ 500 ∧ (0 ≤ keyAt S n ∧ keyAt S n < mWide L) ∧
  ∀ x G' H', Gr G H G' H' → Dq G' x (choiceD (choiceAt L S n st)) → Q x H'
theorem dq_snoc {G : Hp} {xs : List V} {ds : List PyData} {v : V} {d : PyData} (t : DqAll G xs ds) (h : Dq G v d) : DqAll G (xs ++ [v]) (ds ++ [d]) := t.append (.one h)
section
variable {P : Program} {w : World} {K : PySem.W.Frag} {mg : Str → Option Value} {base : Heap}
abbrev sWay_init : Stmt := inClass (top 42) 0
abbrev NWay_init : List PySem.Str := ["self", "player", "bounds", "ticks"]
abbrev PWay_init : List PySem.Str := ["self", "player", "bounds", "ticks"]
theorem scWay_init : FnScope NWay_init PWay_init (defScope sWay_init) := ⟨rfl, rfl, rfl, by decide +kernel, rfl, by decide +kernel, by decide +kernel⟩
theorem ok_Way_init {C f : Addr} {fd : FuncData} (F : Fun K "__init__" "Way.__init__" sWay_init f fd) (T : WyC K C) : FnOk P w K mg base CX0 1 f fd PWay_init (sp_Way_init C) := by
  refine F.ok scWay_init (fun vs H Q E h => ?_) (fun cdv A outer s H vs Q E hr h => ?_)
  · obtain ⟨G, x, dx, p, b, t, rfl, _⟩ := h
    rfl
  · obtain ⟨G, x, dx, p, b, t, rfl, sG, hx, gx, k⟩ := h
    have nd := scWay_init.nd
    refine ⟨_, (pss_cons (ps_fld (pv 0) (pv 1) rfl)
    (pss_cons (ps_fld (pv 0) (pv 2) rfl)
    (pss_cons (ps_fld (pv 0) (pv 3) rfl)
    (pss_cons (ps_fld (pv 0) (pe_tup pa_nil) rfl)
    (pss_one (ps_fld (pv 0) (pe_lst pa_nil) rfl)))))), ?_⟩
    refine ⟨_, rfl, _, rfl, x, C, dx, [], rfl, hx, T.cl, T.nP, (by show 0 < 1000; decide), ?_⟩
    refine ⟨_, rfl, _, rfl, x, C, dx, _, rfl, upd_same, T.cl, T.nB, (by show 1 < 1000; decide), ?_⟩
    rw [upd_upd]
    refine ⟨_, rfl, _, rfl, x, C, dx, _, rfl, upd_same, T.cl, T.nT, (by show 2 < 1000; decide), ?_⟩
    rw [upd_upd]
    refine ⟨Nat.zero_le _, fun c hc => ?_⟩
    have nc : x ≠ c := ne_of_none upd_same hc
    have hc0 : H c = none := by rw [upd_ne nc.symm] at hc; exact hc
    refine ⟨_, rfl, x, C, dx, _, rfl, by rw [upd_ne nc]; exact upd_same, T.cl, T.nC, (by show 3 < 1000; decide), ?_⟩
    refine ⟨Nat.zero_le _, fun r hr2 => ?_⟩
    have nr : x ≠ r := ne_of_none upd_same hr2
    have ncr : c ≠ r := by
      rintro rfl
      rw [upd_ne nc.symm, upd_same] at hr2
      cases hr2
    have hr0 : H r = none := by
      rw [upd_ne nr.symm, upd_ne ncr.symm, upd_ne nr.symm] at hr2
      exact hr2
    refine ⟨_, rfl, x, C, dx, _, rfl, by rw [upd_ne nr]; exact upd_same, T.cl, T.nR, (by show 4 < 1000; decide), ?_⟩
    have gc : G c = none := sG.free hc0
    have gr : (upd G c (.tup [])) r = none := by rw [upd_ne ncr.symm]; exact sG.free hr0
    refine k (upd (upd G c (.tup [])) r (.lst [])) _ c r (fun a o e => ?_) ((same_upd gc).trans (same_upd gr)) (fun a o ha ho => ?_) (fun a h1 h0 => ?_) upd_same ((newT gc .nil).of (same_upd gr)) (newL gr .nil)
    · by_cases hax : a = x
      · subst hax
        rw [upd_ne nr, upd_ne nc] at e
        rw [gx] at e
        cases e
      · rw [upd_ne hax]
        by_cases har : a = r
        · subst har
          rw [upd_same] at e ⊢
          exact e
        · rw [upd_ne har] at e ⊢
          rw [upd_ne hax]
          by_cases hac : a = c
          · subst hac
            rw [upd_same] at e ⊢
            exact e
          · rw [upd_ne hac] at e ⊢
            rw [upd_ne hax]
            exact sG _ _ e
    · rw [upd_ne ha, upd_ne (ne_of_none ho hr0), upd_ne ha, upd_ne (ne_of_none ho hc0), upd_ne ha]
      exact ho
    · by_cases har : a = r
      · rw [har]; exact hr0
      · rw [upd_ne har] at h1
        by_cases hac : a = c
        · rw [hac]; exact hc0
        · rw [upd_ne hac] at h1
          exact absurd h0 h1
abbrev splain_step : Stmt := top 44
abbrev Nplain_step : List PySem.Str := ["player", "key", "way"]
abbrev Pplain_step : List PySem.Str := ["player", "key", "way"]
theorem scplain_step : FnScope Nplain_step Pplain_step (defScope splain_step) := ⟨rfl, rfl, rfl, by decide +kernel, rfl, by decide +kernel, by decide +kernel⟩
theorem ok_plain_step {C f : Addr} {fd : FuncData} (F : Fun K "plain_step" "plain_step" splain_step f fd) (T : Tc mg K) (c_is_dual : C8.Cal P w K mg base 1 "is_dual" sp_is_dual []) (m_Player_look : C8.Met P w K mg base 3 C "look" (sp_Player_look C) []) (m_Player_down : C8.Met P w K mg base 4 C "down" (sp_Player_down C) []) (m_Player_up : C8.Met P w K mg base 1 C "up" (sp_Player_up C) []) : FnOk P w K mg base CX0 5 f fd Pplain_step (sp_plain_step C) := by
  refine F.ok scplain_step (fun vs H Q E h => ?_) (fun cdv A outer s H vs Q E hr h => ?_)
  · obtain ⟨G, p, dl, db, L, st, s, rfl, _⟩ := h
    rfl
  · obtain ⟨G, p, dl, db, L, st, ⟨key, dn⟩, rfl, sG, hP, hL, hbo, hsz, hk, k⟩ := h
    have nd := scplain_step.nd
    refine ⟨_, (pss_cons (ps_if (pt_cmpR op_eq (pv 2) pe_str (by first | exact nomark _ | rfl)) (pss_one (ps_ret (C8.pe_mt m_Player_up hr (by decide) (pv 0) (pa_cons (pv 1) pa_nil)))) pss_nil)
    (pss_one (ps_ret (C8.pe_mt m_Player_down hr (by decide) (pv 0) (pa_cons (pv 1) (pa_cons (pe_ifExp (pt_val (C8.pe_c c_is_dual hr (by decide) rfl (pa_cons (pe_ix ixtq (C8.pe_mt m_Player_look hr (by decide) (pv 0) (pa_cons (pv 1) pa_nil)) pe_int (fun _ _ => rfl)) pa_nil))) (C8.pe_gc rfl T.HOLD) pe_non) pa_nil)))))), ?_⟩
    obtain ⟨la, dx, hp, _⟩ := id hP.ob
    refine ⟨_, rfl, rfl, _, rfl, ?_⟩
    cases dn with
    | false =>
      refine ⟨_, rfl, p, dx, _, rfl, hp, lk_other (by decide +kernel), _, rfl, G, p, dl, db, L, st, key, rfl, sG, hP, fun v G' H' g hP' dv => ?_⟩
      exact k v G' H' g hP' dv
    | true =>
      refine ⟨_, rfl, p, dx, _, rfl, hp, lk_other (by decide +kernel), _, rfl, ?_⟩
      refine ⟨_, rfl, p, dx, _, rfl, hp, lk_other (by decide +kernel), _, rfl, G, p, dl, db, L, st, key, rfl, sG, hP, hL, hbo, hsz, hk, fun v G1 H1 g1 dv => ?_⟩
      obtain ⟨q, xs, rfl, hq, t⟩ := dv.tupE
      obtain ⟨v1, v2, rfl, d1, d2⟩ := t.twoE
      refine ⟨q, _, _, _, rfl, rfl, g1.sub _ _ hq, atI_nat (j := 1) rfl, v2, (mLook L st key).2, rfl, d2.of g1.sub, _, rfl, ?_⟩
      have fin : ∀ d : Option Bool, ((mLook L st key).2.isDual = true → d ≠ none) → isTap d = false → sp_Player_down C [.ref p, .int key, dV d] H1 Q C8.E0 := fun d hd ht => by
        refine ⟨G1, p, dl, db, L, st, key, d, rfl, g1.sub, hP.gr g1, hL, hbo, hsz, hk, hd, fun v G2 H2 g2 hP2 do2 => ?_⟩
        rw [ht] at hP2 do2
        exact k v G2 H2 ((GrP.of g1).trans g2) hP2 do2
      cases hdual : (mLook L st key).2.isDual with
      | true => exact fin (some false) (fun _ => nofun) rfl
      | false => exact fin none (fun h => by rw [hdual] at h; cases h) rfl
abbrev schoice_at : Stmt := top 43
abbrev Nchoice_at : List PySem.Str := ["order", "number", "player", "key", "action", "place", "step"]
abbrev Pchoice_at : List PySem.Str := ["order", "number", "player"]
theorem scchoice_at : FnScope Nchoice_at Pchoice_at (defScope schoice_at) := ⟨rfl, rfl, rfl, by decide +kernel, rfl, by decide +kernel, by decide +kernel⟩
theorem ok_choice_at {C f : Addr} {fd : FuncData} (F : Fun K "choice_at" "choice_at" schoice_at f fd) (c_is_dual : C8.Cal P w K mg base 1 "is_dual" sp_is_dual []) (c_decider_of : C8.Cal P w K mg base 1 "decider_of" sp_decider_of []) (m_Player_look : C8.Met P w K mg base 3 C "look" (sp_Player_look C) []) : FnOk P w K mg base CX0 4 f fd Pchoice_at (sp_choice_at C) := by
  refine F.ok scchoice_at (fun vs H Q E h => ?_) (fun cdv A outer s H vs Q E hr h => ?_)
  · obtain ⟨G, v, S, n, p, dl, db, L, st, rfl, _⟩ := h
    rfl
  · obtain ⟨G, v, S, n, p, dl, db, L, st, rfl, sG, hv, hn, hl, hP, hL, hbo, hsz, hk, k⟩ := h
    have nd := scchoice_at.nd
    obtain ⟨a, xs, rfl, ha, t⟩ := hv.lstE
    have hxl : xs.length = S.length := by rw [t.length, List.length_map]
    have es : S[n]? = some (S[n]'hn) := List.getElem?_eq_getElem hn
    have ek : keyAt S n = (S[n]'hn).1 := by unfold keyAt; simp [hn]
    obtain ⟨vs0, hx0, dv0⟩ := get_map t es
    obtain ⟨ps, rfl, hps⟩ := stp_parts dv0
    rw [← ek] at hps
    refine ⟨_, (pss_cons (ps_set (i := 3) nd rfl (Or.inl rfl) (pe_ix ixtq (pe_ix ixlq (pv 0) (pv 1) (fun _ _ => rfl)) pe_int (fun _ _ => rfl)))
    (pss_cons (ps_set (i := 4) nd rfl (Or.inl rfl) (pe_ix ixtq (C8.pe_mt m_Player_look hr (by decide) (pv 2) (pa_cons (pv 3) pa_nil)) pe_int (fun _ _ => rfl)))
    (pss_cons (ps_if (pt_not (pt_val (C8.pe_c c_is_dual hr (by decide) rfl (pa_cons (pv 4) pa_nil)))) (pss_one (ps_ret pe_non)) pss_nil)
    (pss_cons (ps_set (i := 5) nd rfl (Or.inl rfl) (C8.pe_c c_decider_of hr (by decide) rfl (pa_cons (pe_lc (own := [("step", 6)]) rfl nd (pi_list (pv 0)) (blkOk_by (own := [("step", 6)]) (N := Nchoice_at) (sc := defScope schoice_at) (by decide +kernel)) (fun _ _ _ _ _ => (pg_name (i := 6) nd rfl (Or.inl rfl))) (fun _ _ _ _ _ => pts_nil) (fun _ _ _ _ _ => (pe_tup (pa_cons pe_int (starq (pv 6) pa_nil))))) (pa_cons (pv 1) (pa_cons (pe_ix ixtq (pv 4) pe_int (fun _ _ => rfl)) pa_nil)))))
    (pss_one (ps_ret (pe_ifExp (PW.pt (pw_or (pt_cmpR op_isN (pv 5) pe_non (by first | exact nomark _ | rfl)) (pw_or1 (pt_cmpR op_ne (pe_ix ixtq (pe_ix ixlq (pv 0) (pv 5) (fun _ _ => rfl)) pe_int (fun _ _ => rfl)) (pv 3) (by first | exact nomark _ | rfl))))) pe_non (pe_tup (pa_cons (pv 5) (pa_cons (pe_ix ixtq (pv 4) pe_int (fun _ _ => rfl)) pa_nil)))))))))), ?_⟩
    obtain ⟨la, dx, hp, _⟩ := id hP.ob
    refine ⟨_, rfl, _, rfl, a, xs, _, V.ref ps, rfl, rfl, sG _ _ ha, atI_nat hx0, ps, _, _, _, rfl, rfl, sG _ _ hps, atI_nat (j := 0) rfl, ?_⟩
    refine ⟨_, rfl, p, dx, _, rfl, hp, lk_other (by decide +kernel), _, rfl, G, p, dl, db, L, st, keyAt S n, rfl, sG, hP, hL, hbo, hsz, hk, fun v G1 H1 g1 dv => ?_⟩
    obtain ⟨q, ys, rfl, hq, ty⟩ := dv.tupE
    obtain ⟨v1, v2, rfl, d1, d2⟩ := ty.twoE
    refine ⟨q, _, _, _, rfl, rfl, g1.sub _ _ hq, atI_nat (j := 1) rfl, ?_⟩
    refine ⟨_, rfl, v2, (mLook L st (keyAt S n)).2, rfl, d2.of g1.sub, _, rfl, ?_⟩
    have k1 := k
    unfold choiceAt at k1
    cases hac : (mLook L st (keyAt S n)).2 with
    | non => rw [hac] at k1; exact k1 _ G1 H1 g1 .non
    | thr => rw [hac] at k1; exact k1 _ G1 H1 g1 .non
    | w x => rw [hac] at k1; exact k1 _ G1 H1 g1 .non
    | dual c hh tm r =>
      rw [hac] at k1 d2
      dsimp only at k1
      obtain ⟨pd, ds, rfl, hpd, td⟩ := (show Dq G1 v2 (.tuple [.str "dual", .str c, hh.d, .int tm, .str r]) from d2).tupE
      obtain ⟨w1, w2, w3, w4, w5, rfl, e1, e2, e3, e4, e5⟩ := td.fiveE
      obtain rfl := e4.intE
      obtain rfl := e5.strE
      have hpd1 := g1.sub _ _ hpd
      have sG1 := g1.sub0 sG
      refine ⟨_, rfl, a, rfl, ⟨_, sqL (sG1 _ _ ha)⟩, fun D hD => ?_⟩
      refine lcD (G := G) (G1 := G1) (fun i => (S[i]?).map fun s => (Ev.mk 0 s.1 s.2).d) (walkL (K := K) (a := a) (xs := xs)) (by omega) g1 (fun Gi Hi g => g.keep _ _ (sG1 _ _ ha)) hD (fun i x Gi Hi H' Ok No hi g y ok no => ?_) fun G2 H2 g2 g3 dq => ?_
      · obtain ⟨rfl, hy⟩ := y
        obtain ⟨s, es2, dv2⟩ := getV_map t hy
        obtain ⟨pz, rfl, hpz⟩ := stp_parts dv2
        refine ⟨rfl, _, rfl, pz, _, rfl, .inr (g.keep _ _ (sG1 _ _ hpz)), by show 3 ≤ sizeLine; decide, fun z hz => ?_⟩
        refine ok _ (upd Gi z _) _ (Ev.mk 0 s.1 s.2).d ((Gr.refl g.sub).fr hz) (newT (g.sub.free hz) (.three (.int _) (.int _) (.str _))) ?_
        show (S[i]?).map _ = _
        rw [es2]
        rfl
      · rw [hxl, made_map] at dq
        have eR : (S.map fun s => Ev.mk 0 s.1 s.2).map Ev.d = S.map fun s => (Ev.mk 0 s.1 s.2).d := by rw [List.map_map]; rfl
        have eS : (S.map fun s => Ev.mk 0 s.1 s.2).map Ev.stp = S := by
          rw [List.map_map]
          exact (List.map_congr_left fun s _ => rfl).trans (List.map_id S)
        refine ⟨_, rfl, _, rfl, pd, _, _, _, rfl, rfl, g2.sub _ _ (g3.ext _ _ hpd), atI_nat (j := 4) rfl, ?_⟩
        refine ⟨.ref D, S.map fun s => Ev.mk 0 s.1 s.2, n, r, rfl, (by unfold recD; rw [eR]; exact dq.of g2.sub), by rw [List.length_map]; exact hn, by rw [List.length_map]; exact hl, fun H3 s3 => ?_⟩
        rw [eS]
        have g4 : Gr G H G2 H3 := g2.same s3
        cases hd : mDecider S n r with
        | none =>
          rw [hd] at k1
          exact ⟨_, rfl, rfl, true, rfl, k1 _ G2 H3 g4 .non⟩
        | some qd =>
          rw [hd] at k1
          dsimp only at k1
          obtain ⟨q1, q2⟩ := decider_lt hd
          have es3 : S[qd]? = some (S[qd]'q2) := List.getElem?_eq_getElem q2
          have ek3 : keyAt S qd = (S[qd]'q2).1 := by unfold keyAt; simp [q2]
          obtain ⟨vs3, hx3, dv3⟩ := get_map t es3
          obtain ⟨p3, rfl, hp3⟩ := stp_parts dv3
          rw [← ek3] at hp3
          have sG3 := g4.sub0 sG
          refine ⟨_, rfl, rfl, false, rfl, ?_⟩
          refine ⟨_, rfl, _, rfl, a, xs, _, V.ref p3, rfl, rfl, sG3 _ _ ha, atI_nat hx3, p3, _, _, _, rfl, rfl, sG3 _ _ hp3, atI_nat (j := 0) rfl, _, rfl, rfl, _, rfl, ?_⟩
          by_cases he : keyAt S qd = keyAt S n
          · rw [if_neg (fun z => z he)] at k1
            rw [decide_eq_true (congrArg V.int he)]
            refine ⟨_, rfl, _, rfl, pd, _, _, _, rfl, rfl, g4.sub _ _ (g3.ext _ _ hpd), atI_nat (j := 3) rfl, by show 2 ≤ sizeLine; decide, fun z hz => ?_⟩
            exact k1 _ (upd G2 z _) _ (g4.fr hz) (newT (g4.sub.free hz) (.two (.int _) (.int _)))
          · rw [if_pos he] at k1
            rw [decide_eq_false (fun z => he (V.int.inj z))]
            exact k1 _ G2 H3 g4 .non
abbrev sWay_play : Stmt := inClass (top 42) 2
abbrev NWay_play : List PySem.Str := ["self", "key", "way"]
abbrev PWay_play : List PySem.Str := ["self", "key", "way"]
theorem scWay_play : FnScope NWay_play PWay_play (defScope sWay_play) := ⟨rfl, rfl, rfl, by decide +kernel, rfl, by decide +kernel, by decide +kernel⟩
theorem ok_Way_play {Cw C f : Addr} {fd : FuncData} (F : Fun K "play" "Way.play" sWay_play f fd) (T : WyC K Cw) (c_plain_step : C8.Cal P w K mg base 5 "plain_step" (sp_plain_step C) []) : FnOk P w K mg base CX0 6 f fd PWay_play (sp_Way_play Cw C) := by
  refine F.ok scWay_play (fun vs H Q E h => ?_) (fun cdv A outer s H vs Q E hr h => ?_)
  · obtain ⟨G, o, L, w, s, rfl, _⟩ := h
    rfl
  · obtain ⟨G, o, L, wy, st, rfl, sG, hW, hL, hok, hk, k⟩ := h
    have nd := scWay_play.nd
    obtain ⟨dx, b, t, c, r, ho, hb, ht, hc, hr2⟩ := id hW.ob
    obtain ⟨r', rs, e, hrs, trs⟩ := hr2.lstE
    cases e
    refine ⟨_, (pss_one (ps_fld (pv 0) (pe_lst (starq (fldK (K := K) (pv 0) rfl) (pa_cons (C8.pe_c c_plain_step hr (by decide) rfl (pa_cons (fldK (K := K) (pv 0) rfl) (pa_cons (pv 1) (pa_cons (pv 2) pa_nil)))) pa_nil))) rfl)), ?_⟩
    refine ⟨_, rfl, o.wy, Cw, dx, _, _, rfl, ho, T.cl, T.nR, lw_result, r, rs, rfl, .inl (sG _ _ hrs), ?_⟩
    refine ⟨_, rfl, o.wy, Cw, dx, _, _, rfl, ho, T.cl, T.nP, lw_player, _, rfl, _, rfl, ?_⟩
    refine ⟨G, o.p, o.dl, o.db, L, wy.pl, st, rfl, sG, hW.pl, hL, hok.bd, by have := hok.sz; omega, hk, fun v G1 H1 g1 hP1 dv => ?_⟩
    have hrl : rs.length = wy.res.length := by rw [trs.length, List.length_map]
    refine ⟨small (by have := hok.rl; simp; omega), fun z hz => ?_⟩
    have notown : ∀ {a x}, own3 o.p o.dl o.db a → G a = some x → False := fun h e => by
      rw [hW.pl.none_of h] at e
      cases e
    have nwy : ¬ own3 o.p o.dl o.db o.wy := by
      obtain ⟨la, dxp, hp, _⟩ := hW.pl.ob
      obtain ⟨kb, hbb, _⟩ := hW.pl.bd
      rintro (e | e | e)
      · exact hW.nwp e
      · exact (ne_of ho hW.pl.lk (by intro z; cases z)) e
      · exact (ne_of ho hbb (by intro z; cases z)) e
    have ho1 : H1 o.wy = some (.ins Cw dx (wyF o.p b t c r)) := g1.keep _ _ nwy ho
    have g2 : Gr G1 H1 (upd G1 z (.lst (rs ++ [v]))) (upd H1 z (.lst (rs ++ [v]))) := (Gr.refl g1.sub).fr hz
    have gz1 : G1 z = none := g1.sub.free hz
    have nz : o.wy ≠ z := ne_of_none ho1 hz
    refine ⟨_, rfl, o.wy, Cw, dx, _, rfl, by rw [upd_ne nz]; exact ho1, T.cl, T.nR, (by show 5 < 1000; decide), ?_⟩
    rw [putw_result]
    have gw1 : G1 o.wy = none := GrP.out g1 ho hW.gw
    have gw2 : (upd G1 z (.lst (rs ++ [v]))) o.wy = none := by rw [upd_ne nz]; exact gw1
    have gP : GrP o.has G H (upd G1 z (.lst (rs ++ [v]))) (upd (upd H1 z (.lst (rs ++ [v]))) o.wy (.ins Cw dx (wyF o.p b t c z))) := ((GrP.wide g1 fun a h => .inr h).trans (GrP.of g2)).set (.inl rfl) gw2 (by rw [upd_ne nz, ho1]; exact nofun)
    have sG1 : Same G (upd G1 z (.lst (rs ++ [v]))) := g1.ext.trans (same_upd gz1)
    refine k _ _ gP ⟨⟨dx, b, t, c, z, upd_same, hb.of sG1, ht.of sG1, hc.of sG1, ?_⟩, gw2, ?_, hW.nwp⟩
    · show Dq _ (.ref z) (.list ((wy.res ++ [(mPlain L wy.pl st).1]).map outD))
      rw [List.map_append]
      exact newL gz1 (dq_snoc (trs.of g1.ext) dv)
    · refine (hP1.gr g2).keep (Same.refl _) (fun a x ha hx => ?_) fun a ha => ?_
      · rw [upd_ne (fun e => nwy (by rw [← e]; exact ha))]
        exact hx
      · exact (hP1.gr g2).none_of ha
end
end HT7
end partW13
section partW14
set_option Elab.async false
set_option linter.all false
set_option maxRecDepth 100000
namespace HT7
open PySem PySem.Spec PyProof.Rows L2 HT5 HT6
section
variable {P : Program} {w : World} {K : PySem.W.Frag} {mg : Str → Option Value} {base : Heap}
abbrev sWay_turned : Stmt := inClass (top 42) 1
abbrev NWay_turned : List PySem.Str := ["self", "key", "word", "bound", "ticks", "other"]
abbrev PWay_turned : List PySem.Str := ["self", "key", "word", "bound"]
theorem scWay_turned : FnScope NWay_turned PWay_turned (defScope sWay_turned) := ⟨rfl, rfl, rfl, by decide +kernel, rfl, by decide +kernel, by decide +kernel⟩
theorem ok_Way_turned {Cw C f : Addr} {fd : FuncData} (F : Fun K "turned" "Way.turned" sWay_turned f fd) (T : WyC K Cw) (c_lifted_numbers : C8.Cal P w K mg base 1 "lifted_numbers" sp_lifted_numbers []) (m_Way : C8.Mak P w K mg base 1 "Way" Cw (sp_Way_init Cw) []) (m_Player_copy : C8.Met P w K mg base 3 C "copy" (sp_Player_copy C) []) (m_Player_down : C8.Met P w K mg base 4 C "down" (sp_Player_down C) []) : FnOk P w K mg base CX0 5 f fd PWay_turned (sp_Way_turned Cw C) := by
  refine F.ok scWay_turned (fun vs H Q E h => ?_) (fun cdv A outer s H vs Q E hr h => ?_)
  · obtain ⟨G, o, L, wy, key, tap, v, b, rfl, _⟩ := h
    rfl
  · obtain ⟨G, o, L, wy, key, tap, vb, bd, rfl, sG, hW, hL, hok, hk, hvb, hbi, kn, ks⟩ := h
    have nd := scWay_turned.nd
    obtain ⟨dx, b, t, c, r, ho, hb, ht, hc, hr2⟩ := id hW.ob
    obtain ⟨r', rs, e, hrs, trs⟩ := hr2.lstE
    cases e
    obtain ⟨b', bs, e, hbs, tbs⟩ := hb.lstE
    cases e
    obtain ⟨c', cs, e, hcs, tcs⟩ := hc.tupE
    cases e
    have hbl : bs.length = wy.bounds.length := by rw [tbs.length, List.length_map]
    have hcl : cs.length = wy.choice.length := by rw [tcs.length, List.length_map]
    have hrl : rs.length = wy.res.length := by rw [trs.length, List.length_map]
    have o1 := hok.bl
    have o2 := hok.cl
    have o3 := hok.rl
    have o4 := hok.tl
    have o5 := hok.sz
    refine ⟨_, (pss_cons (ps_set (i := 4) nd rfl (Or.inl rfl) (C8.pe_c c_lifted_numbers hr (by decide) rfl (pa_cons (pe_lst (starq (fldK (K := K) (pv 0) rfl) (pa_cons (pv 3) pa_nil))) (pa_cons (fldK (K := K) (pv 0) rfl) pa_nil))))
    (pss_cons (ps_if (pt_cmpR op_isN (pv 4) pe_non (by first | exact nomark _ | rfl)) (pss_one (ps_ret pe_non)) pss_nil)
    (pss_cons (ps_set (i := 5) nd rfl (Or.inl rfl) (C8.pe_mk m_Way hr (by decide) rfl (pa_cons (C8.pe_mt0 m_Player_copy hr (by decide) (fldK (K := K) (pv 0) rfl)) (pa_cons (pe_lst (starq (fldK (K := K) (pv 0) rfl) (pa_cons (pv 3) pa_nil))) (pa_cons (pv 4) pa_nil)))))
    (pss_cons (ps_fld (pv 5) (pe_tup (starq (fldK (K := K) (pv 0) rfl) (pa_cons (pv 2) pa_nil))) rfl)
    (pss_cons (ps_fld (pv 5) (pe_lst (starq (fldK (K := K) (pv 0) rfl) (pa_cons (C8.pe_mt m_Player_down hr (by decide) (fldK (K := K) (pv 5) rfl) (pa_cons (pv 1) (pa_cons (pv 2) pa_nil))) pa_nil))) rfl)
    (pss_one (ps_ret (pv 5)))))))), ?_⟩
    refine ⟨_, rfl, o.wy, Cw, dx, _, _, rfl, ho, T.cl, T.nB, lw_bounds, b, bs, rfl, .inl (sG _ _ hbs), _, rfl, small (by simp; omega), fun z hz => ?_⟩
    have g1 : Gr G H (upd G z (.lst (bs ++ [vb]))) (upd H z (.lst (bs ++ [vb]))) := (Gr.refl sG).fr hz
    have gz : G z = none := sG.free hz
    have dz : Dq (upd G z (.lst (bs ++ [vb]))) (.ref z) (.list ((wy.bounds ++ [bd]).map bdD)) := by
      rw [List.map_append]
      exact newL gz (dq_snoc tbs hvb)
    generalize upd G z (.lst (bs ++ [vb])) = G1 at g1 dz
    generalize upd H z (.lst (bs ++ [vb])) = H1 at g1 ⊢
    refine ⟨_, rfl, o.wy, Cw, dx, _, _, rfl, g1.keep _ _ ho, T.cl, T.nT, lw_ticks, ?_⟩
    refine ⟨G1, .ref z, .ref t, wy.bounds ++ [bd], wy.ticks, rfl, g1.sub, dz, ht.of g1.ext, ?_, by omega, fun x G2 H2 g2 dx2 => ?_⟩
    · intro q hq
      rcases List.mem_append.mp hq with h | h
      · exact hok.bi q h
      · exact hbi q h
    have g12 := g1.trans g2
    have kn' := kn
    have ks' := ks
    unfold mTurned at kn' ks'
    cases hlift : mLifted (wy.bounds ++ [bd]) wy.ticks with
    | none =>
      rw [hlift] at dx2 kn'
      obtain rfl := dx2.nonE
      exact ⟨_, rfl, rfl, true, rfl, kn' rfl G2 H2 g12⟩
    | some tk =>
      rw [hlift] at dx2 ks'
      dsimp only at ks'
      obtain ⟨pt, ts, rfl, hpt, tts⟩ := Dq.lstE (show Dq G2 x (intsD tk) from dx2)
      have dtk : Dq G2 (.ref pt) (intsD tk) := dx2
      refine ⟨_, rfl, rfl, false, rfl, ?_⟩
      obtain ⟨la, dxp, hp, _⟩ := id hW.pl.ob
      have hP2 := hW.pl.gr g12
      refine ⟨_, rfl, o.wy, Cw, dx, _, _, rfl, g12.keep _ _ ho, T.cl, T.nP, lw_player, o.p, dxp, _, rfl, g12.keep _ _ hp, lk_other (by decide +kernel), ?_⟩
      refine ⟨G2, o.p, o.dl, o.db, L, wy.pl, rfl, g12.sub, hP2, fun H3 p' dl' db' s3 np nl nb hP3 => ?_⟩
      have g3 : Gr G H G2 H3 := g12.same s3
      refine ⟨_, rfl, o.wy, Cw, dx, _, _, rfl, g3.keep _ _ ho, T.cl, T.nB, lw_bounds, b, bs, rfl, .inl (g3.keep _ _ (sG _ _ hbs)), _, rfl, small (by simp; omega), fun z2 hz2 => ?_⟩
      have g4 : Gr G2 H3 (upd G2 z2 (.lst (bs ++ [vb]))) (upd H3 z2 (.lst (bs ++ [vb]))) := (Gr.refl g3.sub).fr hz2
      have gz2 : G2 z2 = none := g3.sub.free hz2
      have dz2 : Dq (upd G2 z2 (.lst (bs ++ [vb]))) (.ref z2) (.list ((wy.bounds ++ [bd]).map bdD)) := by
        rw [List.map_append]
        exact newL gz2 (dq_snoc (tbs.of g12.ext) (hvb.of g12.ext))
      have hP4 := hP3.gr g4
      have g04 := g3.trans g4
      have dtk4 := dtk.of g4.ext
      generalize upd G2 z2 (.lst (bs ++ [vb])) = G4 at g4 dz2 hP4 g04 dtk4
      generalize upd H3 z2 (.lst (bs ++ [vb])) = H4 at g4 hP4 g04 ⊢
      refine ⟨_, rfl, fun x dxw nx ndx nex => ?_⟩
      have s5 : Same H4 (upd (upd H4 dxw (.own x)) x (.ins Cw dxw [])) := fun q o e => by
        rw [upd_ne (ne_of_none e nx), upd_ne (ne_of_none e ndx)]; exact e
      have gx4 : G4 x = none := g04.sub.free nx
      refine ⟨G4, x, dxw, p', z2, pt, rfl, g04.sub.trans s5, upd_same, gx4, fun G6 H6 cc rr s6 e6 kp6 n6 hx6 dcc drr => ⟨rfl, ?_⟩⟩
      have sH : Same H4 H6 := fun q o e => kp6 q o (ne_of_none e nx) (s5 q o e)
      have hxH : H x = none := g04.keep.free nx
      have g6 : Gr G4 H4 G6 H6 := ⟨s6, e6, sH, fun a h1 h0 => s5.free (n6 a h1 h0)⟩
      have gx6 : G6 x = none := by
        cases q : G6 x with
        | none => rfl
        | some u =>
          have := n6 x (by rw [q]; exact nofun) gx4
          rw [upd_same] at this
          cases this
      have hP6 := hP4.gr g6
      have g06 := g04.trans g6
      have hpH : H p' = none := g12.keep.free np
      have hdlH : H dl' = none := g12.keep.free nl
      have hdbH : H db' = none := g12.keep.free nb
      -- other.kept_choice = (*self.kept_choice, word)
      refine ⟨_, rfl, o.wy, Cw, dx, _, _, rfl, g06.keep _ _ ho, T.cl, T.nC, lw_choice, c, cs, rfl, .inr (g06.keep _ _ (sG _ _ hcs)), _, rfl, small (by simp; omega), fun z3 hz3 => ?_⟩
      have g7 : Gr G6 H6 (upd G6 z3 (.tup (cs ++ [.str (tapS tap)]))) (upd H6 z3 (.tup (cs ++ [.str (tapS tap)]))) := (Gr.refl g06.sub).fr hz3
      have gz3 : G6 z3 = none := g06.sub.free hz3
      have dz3 : Dq (upd G6 z3 (.tup (cs ++ [.str (tapS tap)]))) (.ref z3) (.tuple ((wy.choice ++ [tapS tap]).map PyData.str)) := by
        rw [List.map_append]
        exact newT gz3 (dq_snoc (tcs.of g06.ext) (.str _))
      have nxz3 : x ≠ z3 := ne_of_none hx6 hz3
      have gx7 : (upd G6 z3 (.tup (cs ++ [.str (tapS tap)]))) x = none := by rw [upd_ne nxz3]; exact gx6
      have hx7 : (upd H6 z3 (.tup (cs ++ [.str (tapS tap)]))) x = some (.ins Cw dxw (wyF p' z2 pt cc rr)) := by rw [upd_ne nxz3]; exact hx6
      have hP7 := hP6.gr g7
      have g07 := g06.trans g7
      generalize upd G6 z3 (.tup (cs ++ [.str (tapS tap)])) = G7 at g7 dz3 gx7 hP7 g07
      generalize upd H6 z3 (.tup (cs ++ [.str (tapS tap)])) = H7 at g7 hx7 hP7 g07 ⊢
      refine ⟨_, rfl, x, Cw, dxw, _, rfl, hx7, T.cl, T.nC, (by show 5 < 1000; decide), ?_⟩
      rw [putw_choice]
      have nxp : x ≠ p' := by
        intro e
        obtain ⟨_, hq⟩ := hP4.some_of (.inl rfl)
        rw [← e, nx] at hq
        cases hq
      have nxown : ∀ a, own3 p' dl' db' a → a ≠ x := fun a ha e => by
        obtain ⟨_, hq⟩ := hP4.some_of ha
        rw [e, nx] at hq
        cases hq
      have g8 : Gr G H G7 (upd H7 x (.ins Cw dxw (wyF p' z2 pt z3 rr))) := g07.set hxH gx7
      have hP8 : PlAt C G7 (upd H7 x (.ins Cw dxw (wyF p' z2 pt z3 rr))) p' dl' db' L wy.pl := hP7.keep (Same.refl _) (fun a q ha hq => by rw [upd_ne (nxown a ha)]; exact hq) fun a ha => hP7.none_of ha
      have hx8 : (upd H7 x (.ins Cw dxw (wyF p' z2 pt z3 rr))) x = some (.ins Cw dxw (wyF p' z2 pt z3 rr)) := upd_same
      generalize upd H7 x (.ins Cw dxw (wyF p' z2 pt z3 rr)) = H8 at g8 hP8 hx8 ⊢
      -- other.kept_result = [*self.kept_result, other.kept_player.down(key, word)]
      obtain ⟨la8, dx8, hp8, _⟩ := id hP8.ob
      refine ⟨_, rfl, o.wy, Cw, dx, _, _, rfl, g8.keep _ _ ho, T.cl, T.nR, lw_result, r, rs, rfl, .inl (g8.keep _ _ (sG _ _ hrs)), ?_⟩
      refine ⟨_, rfl, x, Cw, dxw, _, _, rfl, hx8, T.cl, T.nP, lw_player, p', dx8, _, rfl, hp8, lk_other (by decide +kernel), _, rfl, _, rfl, ?_⟩
      refine ⟨G7, p', dl', db', L, wy.pl, key, some tap, rfl, g8.sub, hP8, hL, hok.bd, by omega, hk, fun _ => nofun, fun ov G9 H9 g9 hP9 dov => ?_⟩
      have etap : isTap (some tap) = tap := by cases tap <;> rfl
      rw [etap] at hP9 dov
      have g09 : Gr G H G9 H9 := Gr.stepP g8 g9 (by rintro a (rfl | rfl | rfl); exact hpH; exact hdlH; exact hdbH)
      have hx9 : H9 x = some (.ins Cw dxw (wyF p' z2 pt z3 rr)) := g9.keep _ _ (fun h => nxown x h rfl) hx8
      have gx9 : G9 x = none := GrP.out g9 hx8 gx7
      refine ⟨small (by simp; omega), fun z4 hz4 => ?_⟩
      have g10 : Gr G9 H9 (upd G9 z4 (.lst (rs ++ [ov]))) (upd H9 z4 (.lst (rs ++ [ov]))) := (Gr.refl g09.sub).fr hz4
      have gz4 : G9 z4 = none := g09.sub.free hz4
      have dz4 : Dq (upd G9 z4 (.lst (rs ++ [ov]))) (.ref z4) (.list ((wy.res ++ [(mDown L wy.pl key tap).1]).map outD)) := by
        rw [List.map_append]
        exact newL gz4 (dq_snoc (trs.of g09.ext) dov)
      have nxz4 : x ≠ z4 := ne_of_none hx9 hz4
      have gx10 : (upd G9 z4 (.lst (rs ++ [ov]))) x = none := by rw [upd_ne nxz4]; exact gx9
      have hx10 : (upd H9 z4 (.lst (rs ++ [ov]))) x = some (.ins Cw dxw (wyF p' z2 pt z3 rr)) := by rw [upd_ne nxz4]; exact hx9
      have hP10 := hP9.gr g10
      have g010 := g09.trans g10
      have e910 := g10.ext
      generalize upd G9 z4 (.lst (rs ++ [ov])) = G10 at g10 dz4 gx10 hP10 g010 e910
      generalize upd H9 z4 (.lst (rs ++ [ov])) = H10 at g10 hx10 hP10 g010 ⊢
      refine ⟨_, rfl, x, Cw, dxw, _, rfl, hx10, T.cl, T.nR, (by show 5 < 1000; decide), ?_⟩
      rw [putw_result]
      refine ⟨_, rfl, ?_⟩
      have e410 : Same G4 G10 := (e6.trans g7.ext).trans (g9.ext.trans e910)
      have e710 : Same G7 G10 := g9.ext.trans e910
      refine ks' _ G10 _ ⟨x, p', dl', db'⟩ rfl (g010.set hxH gx10) ?_ ⟨⟨dxw, z2, pt, z3, z4, upd_same, dz2.of e410, dtk4.of e410, dz3.of e710, dz4⟩, gx10, ?_, nxp⟩
      · rintro a (rfl | rfl | rfl | rfl)
        · exact hxH
        · exact hpH
        · exact hdlH
        · exact hdbH
      · exact hP10.keep (Same.refl _) (fun a q ha hq => by rw [upd_ne (nxown a ha)]; exact hq) fun a ha => hP10.none_of ha
end
end HT7
end partW14
section partW15
set_option Elab.async false
set_option linter.all false
set_option maxRecDepth 100000
namespace HT7
open PySem PySem.Spec PyProof.Rows L2 HT5 HT6
section
variable {X : Cx}
/-- f(e, .., *y), f a def of the module -/
theorem pe_cS {k j : Nat} {x : PySem.Str} {sp : Sp} {p pos : Pos} {e : Expr} {es : List Expr} {t : TA} (c : C8.Cal X.prog X.w X.K X.mg X.base k x sp []) (hr : Room j X.A) (hk : k ≤ j) (hg : Gl X x) (ha : PA X (e :: es) t) (hd : (x == ("__debug__" : Str)) = false := by decide)
    (he : starEach (e :: es) X.env = (false, eval e X.env) :: starEach es X.env := by rfl) (hst : (backTo pos (starEach es X.env)).any (·.1) = true := by rfl) :
    PE X (.Call (.Name x p) (e :: es) [] pos) (fun σ H Q => t σ H fun vs H1 => sp vs H1 Q C8.E0) := by
  obtain ⟨f, fd, ps, ds, F, hm, kp, b, d⟩ := c.ex
  refine StX.pe_callS2 ((F.raw b d).imp fun vs H Q E h => ?_) (hr.mono hk) kp hg hm C8.pass0 ha hd he hst
  rw [List.append_nil]
  exact h
end
theorem GrP.step {P P' : Addr → Prop} {G H G1 H1 G2 H2 : Hp} (g : GrP P G H G1 H1) (f : GrP P' G1 H1 G2 H2) (hP : ∀ a, P' a → P a ∨ H a = none) : GrP P G H G2 H2 := ⟨f.sub, g.ext.trans f.ext, fun a o n e => f.keep a o (fun z => (hP a z).elim n fun h => by rw [h] at e; cases e) (g.keep a o n e), fun a h2 h0 => by
  by_cases e : G1 a = none
  · have z := f.new a h2 e
    cases q : H a with
    | none => rfl
    | some x => exact absurd z (g.there a (by rw [q]; exact fun z => nomatch z))
  · exact g.new a e h0, fun a h => f.there a (g.there a h)⟩
/-- several ways, each with its own parts -/
inductive AW (Cw Cp : Addr) (G H : Hp) (L : Lay) : List Own → List Wy → Prop
  | nil : AW Cw Cp G H L [] []
  | cons {o : Own} {w : Wy} {os : List Own} {ws : List Wy} : WyAt Cw Cp G H o L w → AW Cw Cp G H L os ws → AW Cw Cp G H L (o :: os) (w :: ws)
section
variable {Cw Cp : Addr} {G H G' H' : Hp} {L : Lay} {os os' : List Own} {ws ws' : List Wy}
theorem AW.length (h : AW Cw Cp G H L os ws) : os.length = ws.length := by
  induction h with
  | nil => rfl
  | cons _ _ ih => simp [ih]
theorem AW.map (h : AW Cw Cp G H L os ws) (m : ∀ o ∈ os, ∀ w, WyAt Cw Cp G H o L w → WyAt Cw Cp G' H' o L w) : AW Cw Cp G' H' L os ws := by
  induction h with
  | nil => exact .nil
  | cons h t ih => exact .cons (m _ List.mem_cons_self _ h) (ih fun o ho => m o (List.mem_cons_of_mem _ ho))
theorem AW.gr (h : AW Cw Cp G H L os ws) (g : Gr G H G' H') : AW Cw Cp G' H' L os ws := h.map fun _ _ _ x => x.gr g
theorem AW.grP {P : Addr → Prop} (h : AW Cw Cp G H L os ws) (g : GrP P G H G' H') (d : ∀ o ∈ os, ∀ a, o.has a → ¬ P a) : AW Cw Cp G' H' L os ws := h.map fun o ho _ x => x.grP g (d o ho)
theorem AW.append (h : AW Cw Cp G H L os ws) (h' : AW Cw Cp G H L os' ws') : AW Cw Cp G H L (os ++ os') (ws ++ ws') := by
  induction h with
  | nil => exact h'
  | cons h _ ih => exact .cons h ih
theorem WyAt.upd_list {o : Own} {w : Wy} {D : Addr} {ys : List V} {u : HO} (h : WyAt Cw Cp G H o L w) (hD : H D = some (.lst ys)) : WyAt Cw Cp G (upd H D u) o L w := by
  have ne : ∀ a, o.has a → a ≠ D := by
    obtain ⟨_, _, _, _, _, h1, _⟩ := h.ob
    obtain ⟨_, _, h2, _⟩ := h.pl.ob
    obtain ⟨_, h3, _⟩ := h.pl.bd
    rintro a (rfl | rfl | rfl | rfl)
    · exact ne_of h1 hD (by intro z; cases z)
    · exact ne_of h2 hD (by intro z; cases z)
    · exact ne_of h.pl.lk hD (by intro z; cases z)
    · exact ne_of h3 hD (by intro z; cases z)
  exact h.keep (Same.refl _) (fun a x ha hx => by rw [upd_ne (ne a ha)]; exact hx) fun a ha => h.none_of ha
theorem AW.upd_list {D : Addr} {ys : List V} {u : HO} (h : AW Cw Cp G H L os ws) (hD : H D = some (.lst ys)) : AW Cw Cp G (upd H D u) L os ws := h.map fun _ _ _ x => x.upd_list hD
end
def Disj (o o' : Own) : Prop := ∀ a, o.has a → ¬ o'.has a
theorem Disj.symm {o o' : Own} (h : Disj o o') : Disj o' o := fun a h1 h2 => h a h2 h1
def refsO (os : List Own) : List V := os.map fun o => V.ref o.wy
/-! the mirror: what stays true of a way -/
theorem liftGo_len {bs : List Bd} : ∀ {f : Nat} {ns t : List Int}, liftGo bs f ns = some t → t.length = ns.length
  | 0, ns, t, h => by cases h
  | f + 1, ns, t, h => by
    unfold liftGo at h
    split at h
    · rw [liftGo_len h, relaxAll_len]
    · cases h
      rw [relaxAll_len]
theorem lifted_len {bs : List Bd} {ns t : List Int} (h : mLifted bs ns = some t) : t.length = ns.length := liftGo_len h
theorem turned_eq {L : Lay} {w w' : Wy} {k : Int} {tap : Bool} {b : Bd} (h : mTurned L w k tap b = some w') : ∃ t, mLifted (w.bounds ++ [b]) w.ticks = some t ∧ w' = ⟨(mDown L w.pl k tap).2, w.bounds ++ [b], t, w.choice ++ [tapS tap], w.res ++ [(mDown L w.pl k tap).1]⟩ := by
  unfold mTurned at h
  cases e : mLifted (w.bounds ++ [b]) w.ticks with
  | none => rw [e] at h; cases h
  | some t =>
    rw [e] at h
    cases h
    exact ⟨t, rfl, rfl⟩
theorem plain_ok {L : Lay} (hL : LayOk L) {st : Pl} {s : Stp} (hk : 0 ≤ s.1 ∧ s.1 < mWide L) (hb : BdOk L st) : BdOk L (mPlain L st s).2 ∧ (mPlain L st s).2.size ≤ st.size + 1 := by
  unfold mPlain
  split
  · exact down_ok hL hk hb
  · have := up_ok (k := s.1) hb
    exact ⟨this.1, by omega⟩
theorem play_ok {L : Lay} (hL : LayOk L) {w : Wy} {s : Stp} {m : Nat} (hk : 0 ≤ s.1 ∧ s.1 < mWide L) (h : WyOk L w m) : WyOk L (mPlay L w s) (m + 1) := by
  obtain ⟨a, b⟩ := plain_ok hL hk h.bd
  refine ⟨a, ?_, h.tl, h.bi, ?_, ?_, ?_⟩
  · have := h.sz
    show (mPlain L w.pl s).2.size ≤ _
    omega
  · have := h.bl
    show w.bounds.length ≤ _
    omega
  · have := h.cl
    show w.choice.length ≤ _
    omega
  · have := h.rl
    show (w.res ++ [(mPlain L w.pl s).1]).length ≤ _
    simp
    omega
theorem turned_ok {L : Lay} (hL : LayOk L) {w w' : Wy} {k : Int} {tap : Bool} {b : Bd} {m : Nat} (hk : 0 ≤ k ∧ k < mWide L) (h : WyOk L w m) (hb : BdIn w.ticks.length [b]) (e : mTurned L w k tap b = some w') : WyOk L w' (m + 1) ∧ w'.ticks.length = w.ticks.length := by
  obtain ⟨t, h1, rfl⟩ := turned_eq e
  have hl := lifted_len h1
  obtain ⟨a, c⟩ := down_ok hL (tap := tap) hk h.bd
  have h2 := h.sz
  have h3 := h.tl
  have h4 := h.bl
  have h5 := h.cl
  have h6 := h.rl
  refine ⟨⟨a, ?_, ?_, ?_, ?_, ?_, ?_⟩, hl⟩
  · show (mDown L w.pl k tap).2.size ≤ _; omega
  · show t.length ≤ _; omega
  · show BdIn t.length (w.bounds ++ [b])
    rw [hl]
    intro q hq
    rcases List.mem_append.mp hq with z | z
    · exact h.bi q z
    · exact hb q z
  · show (w.bounds ++ [b]).length ≤ _; simp; omega
  · show (w.choice ++ [tapS tap]).length ≤ _; simp; omega
  · show (w.res ++ [(mDown L w.pl k tap).1]).length ≤ _; simp; omega
def sp_ways_of (Cw Cp : Addr) : Sp := fun vs H Q _ => ∃ (G : Hp) (v u : V) (S : List Stp) (o : Own) (L : Lay) (w : Wy), vs = [v, u, .ref o.wy] ∧ Same G H ∧ Dq G u (.list (S.map stpD)) ∧ S.length ≤ 8 ∧ WyAt Cw Cp G H o L w ∧ LayOk L ∧ WyOk L w 0 ∧ S.length ≤ w.ticks.length ∧ (∀ s ∈ S, 0 ≤ s.1 ∧ s.1 < mWide L) ∧
  ∀ q os G' H', GrP o.has G H G' H' → H q = none → G' q = none → H' q = some (.lst (refsO os)) → os.length ≤ 256 → AW Cw Cp G' H' L os (mWays L S w) → Q (.ref q) H'
theorem choice_in {L : Lay} {S : List Stp} {n : Nat} {p : Pl} {q : Nat} {t : Int} (h : choiceAt L S n p = some (q, t)) : n < q ∧ q < S.length := by
  unfold choiceAt at h
  split at h
  · rename_i c hh tm r e
    cases hd : mDecider S n r with
    | none => rw [hd] at h; cases h
    | some q' =>
      rw [hd] at h
      dsimp only at h
      split at h
      · cases h
      · cases h
        exact decider_lt hd
  · cases h
theorem press_in {tap : Bool} {n q T : Nat} {t : Int} (hn : n < T) (hq : q < T) : BdIn T [pressBd tap n q t] := by
  intro b hb
  rw [List.mem_singleton.mp hb]
  cases tap
  · exact ⟨hn, hq⟩
  · exact ⟨hq, hn⟩
/-- the turned ways of one: each there or not -/
inductive OWs (Cw Cp : Addr) (G H : Hp) (L : Lay) : List V → List (Option (Own × Wy)) → Prop
  | nil : OWs Cw Cp G H L [] []
  | no {vs : List V} {r : List (Option (Own × Wy))} : OWs Cw Cp G H L vs r → OWs Cw Cp G H L (vs ++ [.non]) (r ++ [none])
  | yes {vs : List V} {r : List (Option (Own × Wy))} {o : Own} {w : Wy} : WyAt Cw Cp G H o L w → OWs Cw Cp G H L vs r → OWs Cw Cp G H L (vs ++ [.ref o.wy]) (r ++ [some (o, w)])
section
variable {Cw Cp : Addr} {G H G' H' : Hp} {L : Lay} {vs : List V} {r : List (Option (Own × Wy))}
theorem OWs.gr (h : OWs Cw Cp G H L vs r) (g : Gr G H G' H') : OWs Cw Cp G' H' L vs r := by
  induction h with
  | nil => exact .nil
  | no _ ih => exact .no ih
  | yes w _ ih => exact .yes (w.gr g) ih
theorem OWs.upd_list {D : Addr} {ys : List V} {u : HO} (h : OWs Cw Cp G H L vs r) (hD : H D = some (.lst ys)) : OWs Cw Cp G (upd H D u) L vs r := by
  induction h with
  | nil => exact .nil
  | no _ ih => exact .no ih
  | yes w _ ih => exact .yes (w.upd_list hD) ih
theorem OWs.vals (h : OWs Cw Cp G H L vs r) : vs = r.map fun x => match x with | none => V.non | some ow => .ref ow.1.wy := by
  induction h with
  | nil => rfl
  | no _ ih => rw [ih, List.map_append]; rfl
  | yes _ _ ih => rw [ih, List.map_append]; rfl
theorem OWs.aw (h : OWs Cw Cp G H L vs r) : AW Cw Cp G H L ((r.filterMap id).map (·.1)) ((r.filterMap id).map (·.2)) := by
  induction h with
  | nil => exact .nil
  | no _ ih => rw [List.filterMap_append]; simpa using ih
  | yes w _ ih =>
    rw [List.filterMap_append, List.map_append, List.map_append]
    exact ih.append (.cons w .nil)
end
/-- ahead of the i-th step: the ways at os -/
def outerP (Cw C : Addr) (G H : Hp) (o : Own) (v : V) (a : Addr) (L : Lay) (S : List Stp) (w0 : Wy) : Nat → L2.St → Hp → Prop := fun i σ H' =>
  ∃ v4 v5 v6 v7 v8 v9 v10 v11 v12 W Gi os ws, σ = [some v, some (.ref a), some (.ref o.wy), some (.ref W), v4, v5, v6, v7, v8, v9, v10, v11, v12] ∧ GrP o.has G H Gi H' ∧ H W = none ∧ Gi W = none ∧ H' W = some (.lst (refsO os)) ∧ AW Cw C Gi H' L os ws ∧ os.Pairwise Disj ∧ (∀ o' ∈ os, ∀ b, o'.has b → o.has b ∨ H b = none) ∧ waysGo L S i ws (S.drop i) = mWays L S w0 ∧ (∀ w' ∈ ws, WyOk L w' i ∧ w'.ticks.length = w0.ticks.length) ∧ os.length ≤ 2 ^ i
/-- within it: later stands at D, the first j ways are done -/
def innerP (Cw C : Addr) (G H : Hp) (o : Own) (v : V) (a W D : Addr) (L : Lay) (S : List Stp) (w0 : Wy) (os : List Own) (ws : List Wy) (i : Nat) (key : Int) (dn : Bool) : Nat → L2.St → Hp → Prop := fun j σ H' =>
  ∃ v8 v9 v10 v11 v12 Gj os' ws', σ = [some v, some (.ref a), some (.ref o.wy), some (.ref W), some (.int (i : Nat)), some (.int key), some (.str (wayS dn)), some (.ref D), v8, v9, v10, v11, v12] ∧ GrP o.has G H Gj H' ∧ Gj W = none ∧ H' W = some (.lst (refsO os)) ∧ Gj D = none ∧ H' D = some (.lst (refsO os')) ∧ AW Cw C Gj H' L os' ws' ∧ AW Cw C Gj H' L (os.drop j) (ws.drop j) ∧ (os' ++ os.drop j).Pairwise Disj ∧ (∀ o' ∈ os' ++ os.drop j, ∀ b, o'.has b → o.has b ∨ H b = none) ∧ ws' ++ (ws.drop j).flatMap (nextWays L S i (key, dn)) = ws.flatMap (nextWays L S i (key, dn)) ∧ (∀ w' ∈ ws', WyOk L w' (i + 1) ∧ w'.ticks.length = w0.ticks.length) ∧ os'.length ≤ 2 * j
theorem notlist {Cw C : Addr} {G H : Hp} {o : Own} {L : Lay} {w : Wy} (h : WyAt Cw C G H o L w) {D : Addr} {ys : List V} (hD : H D = some (.lst ys)) : ¬ o.has D := fun z => by
  obtain ⟨_, _, _, _, _, h1, _⟩ := h.ob
  obtain ⟨_, _, h2, _⟩ := h.pl.ob
  obtain ⟨_, h3, _⟩ := h.pl.bd
  have h4 := h.pl.lk
  rcases z with e | e | e | e
  · rw [← e, hD] at h1; cases h1
  · rw [← e, hD] at h2; cases h2
  · rw [← e, hD] at h4; cases h4
  · rw [← e, hD] at h3; cases h3
theorem GrP.setD {P : Addr → Prop} {G H G1 H1 : Hp} {D : Addr} {u : HO} (g : GrP P G H G1 H1) (h0 : H D = none) (h1 : G1 D = none) : GrP P G H G1 (upd H1 D u) := ⟨fun b x e => by
    rw [upd_ne (ne_of_none e h1)]; exact g.sub b x e, g.ext, fun b x n e => by
    rw [upd_ne (ne_of_none e h0)]; exact g.keep b x n e, g.new, fun b h => by
    by_cases eb : b = D
    · rw [eb, upd_same]; exact nofun
    · rw [upd_ne eb]; exact g.there b h⟩
theorem fm_fst {α β : Type} : ∀ r : List (Option (α × β)), r.filterMap (fun x => x.map (·.1)) = (r.filterMap id).map (·.1)
  | [] => rfl
  | none :: r => by
    have := fm_fst r
    simpa using this
  | some ow :: r => by
    have := fm_fst r
    simpa using this
theorem fm_two {α : Type} (f : Bool → Option α) : [f true, f false].filterMap id = [true, false].filterMap f := by
  cases h1 : f true <;> cases h2 : f false <;> simp [h1, h2]
theorem len_of {i n m : Nat} (hi : i ≤ 8) (h : n ≤ 2 ^ i) (hm : m ≤ 2 * n + 2) : m ≤ 1000 := by
  have : 2 ^ i ≤ 256 := Nat.pow_le_pow_right (by decide) hi
  omega
section
variable {P : Program} {w : World} {K : PySem.W.Frag} {mg : Str → Option Value} {base : Heap}
abbrev sways_of : Stmt := top 45
abbrev Nways_of : List PySem.Str := ["layout", "order", "begun", "ways", "number", "key", "way", "later", "one", "asked", "both", "word", "other"]
abbrev Pways_of : List PySem.Str := ["layout", "order", "begun"]
theorem scways_of : FnScope Nways_of Pways_of (defScope sways_of) := ⟨rfl, rfl, rfl, by decide +kernel, rfl, by decide +kernel, by decide +kernel⟩
theorem ok_ways_of {Cw C f : Addr} {fd : FuncData} (F : Fun K "ways_of" "ways_of" sways_of f fd) (B : Bt mg) (T : Tc mg K) (TW : WyC K Cw) (c_choice_at : C8.Cal P w K mg base 4 "choice_at" (sp_choice_at C) []) (m_Way_play : C8.Met P w K mg base 6 Cw "play" (sp_Way_play Cw C) []) (m_Way_turned : C8.Met P w K mg base 5 Cw "turned" (sp_Way_turned Cw C) []) (c_press_bound : C8.Cal P w K mg base 1 "press_bound" sp_press_bound []) : FnOk P w K mg base CX0 7 f fd Pways_of (sp_ways_of Cw C) := by
  refine F.ok scways_of (fun vs H Q E h => ?_) (fun cdv A outer s H vs Q E hr h => ?_)
  · obtain ⟨G, v, u, S, o, L, w, rfl, _⟩ := h
    rfl
  · obtain ⟨G, v, u, S, o, L, w0, rfl, sG, hu2, hS, hW, hL, hok, hTl, hKs, k⟩ := h
    have nd := scways_of.nd
    obtain ⟨a, xs, rfl, ha, t⟩ := hu2.lstE
    have hxl : xs.length = S.length := by rw [t.length, List.length_map]
    have pk : ∀ {G' H' : Hp} {b : Addr} {x : HO}, GrP o.has G H G' H' → G b = some x → H' b = some x := fun {G' H' b x} g' hb => g'.keep _ _ (fun z => by
      have := hW.none_of z
      rw [hb] at this; cases this) (sG _ _ hb)
    refine ⟨_, (pss_cons (ps_set (i := 3) nd rfl (Or.inl rfl) (pe_lst (pa_cons (pv 2) pa_nil)))
    (pss_cons (ps_for PassesOwn.never rfl (pi_enum (by rfl) B.enumerate (pa_cons (pv 1) pa_nil)) (pg_tupq (n := 2) rfl (pgs_cons (pg_name (i := 4) nd rfl (Or.inr rfl)) (pgs_cons (pg_tupq (n := 2) rfl (pgs_cons (pg_name (i := 5) nd rfl (Or.inr rfl)) (pgs_cons (pg_name (i := 6) nd rfl (Or.inl rfl)) pgs_nil))) pgs_nil))) (pss_cons (ps_set (i := 7) nd rfl (Or.inl rfl) (pe_lst pa_nil))
    (pss_cons (ps_for PassesOwn.never rfl (pi_list (pv 3)) (pg_name (i := 8) nd rfl (Or.inr rfl)) (pss_cons (ps_set (i := 9) nd rfl (Or.inr rfl) (pe_ifExp (pt_cmpR op_eq (pv 6) pe_str (by first | exact nomark _ | rfl)) (C8.pe_c c_choice_at hr (by decide) rfl (pa_cons (pv 1) (pa_cons (pv 4) (pa_cons (fldK (K := K) (pv 8) rfl) pa_nil)))) pe_non))
    (pss_one (ps_if (pt_cmpR op_isN (pv 9) pe_non (by first | exact nomark _ | rfl)) (pss_cons (ps_expr (C8.pe_mt m_Way_play hr (by decide) (pv 8) (pa_cons (pv 5) (pa_cons (pv 6) pa_nil))))
    (pss_one (ps_expr (pe_bm PySem.F.plainAttrs_list PySem.F.slot_list_append PySem.F.type_list_append mt_append (pv 7) (pa_cons (pv 8) pa_nil))))) (pss_cons (ps_setLc (i := 10) (own := [("word", 11)]) rfl nd rfl rfl (sw_true rfl rfl rfl (by decide +kernel)) (pi_tup (pe_tup (pa_cons (C8.pe_gc rfl T.TAP) (pa_cons (C8.pe_gc rfl T.HOLD) pa_nil)))) (blkOk_by (own := [("word", 11)]) (N := Nways_of) (sc := defScope sways_of) (by decide +kernel)) (fun _ _ _ _ _ => (pg_name (i := 11) nd rfl (Or.inl rfl))) (fun _ _ _ _ _ => pts_nil) (fun _ _ _ _ _ => (C8.pe_mt m_Way_turned hr (by decide) (pv 8) (pa_cons (pv 5) (pa_cons (pv 11) (pa_cons (pe_cS c_press_bound hr (by decide) rfl (pa_cons (pv 11) (pa_cons (pv 4) (starq (pv 9) pa_nil)))) pa_nil))))))
    (pss_one (ps_expr (pe_bm PySem.F.plainAttrs_list PySem.F.slot_list_extend PySem.F.type_list_extend mt_extend (pv 7) (pa_cons (pe_lc (own := [("other", 12)]) rfl nd (pi_list (pv 10)) (blkOk_by (own := [("other", 12)]) (N := Nways_of) (sc := defScope sways_of) (by decide +kernel)) (fun _ _ _ _ _ => (pg_name (i := 12) nd rfl (Or.inl rfl))) (fun _ _ _ _ _ => (pts_one (pt_cmpR op_notN (pv 12) pe_non (by first | exact nomark _ | rfl)))) (fun _ _ _ _ _ => (pv 12))) pa_nil)))))))))
    (pss_one (ps_set (i := 3) nd rfl (Or.inl rfl) (pv 7))))))
    (pss_one (ps_ret (pv 3))))), ?_⟩
    refine ⟨_, rfl, by show 1 ≤ sizeLine; decide, fun W0 hW0 => ?_⟩
    have gW0 : G W0 = none := sG.free hW0
    refine ⟨_, rfl, a, xs, rfl, sqL ((same_new hW0) _ _ (sG _ _ ha)), ?_⟩
    refine for_it (walkE (K := K) (a := a) (xs := xs)) (outerP Cw C G H o v a L S w0)
      ⟨none, none, none, none, none, none, none, none, none, W0, G, [o], [w0], rfl, GrP.of ((Gr.refl sG).tmp hW0), hW0, gW0, upd_same, .cons (hW.gr ((Gr.refl sG).tmp hW0)) .nil, List.pairwise_singleton _ _, fun o' ho' b hb => .inl (by rw [List.mem_singleton.mp ho'] at hb; exact hb), rfl, fun w' hw' => by rw [List.mem_singleton.mp hw']; exact ⟨hok, rfl⟩, by simp⟩ (fun i σ H' _ h => ?_) (fun i y σ H1 H2 hi h yy => ?_) fun σ H1 h => ?_
    · obtain ⟨_, _, _, _, _, _, _, _, _, _, _, _, _, _, g, _⟩ := h
      exact pk g ha
    · obtain ⟨v4, v5, v6, v7, v8, v9, v10, v11, v12, W, Gi, os, ws, rfl, g, hWH, gW, hW1, hA, hdis, hfr, hgo, hoks, hlen⟩ := h
      obtain ⟨Tt, x1, y1, rfl, hT, rfl, e1, e2⟩ := yy
      cases e1
      obtain ⟨⟨key, dn⟩, es, dv⟩ := getV_map t e2
      have hi2 : i < S.length := (List.getElem?_eq_some_iff.mp es).1
      obtain ⟨pe, rfl, hpe⟩ := stp_parts dv
      have edr : S.drop i = (key, dn) :: S.drop (i + 1) := by
        rw [List.drop_eq_getElem_cons hi2, (List.getElem?_eq_some_iff.mp es).2]
      rw [edr] at hgo
      have hke := hKs _ (List.mem_of_getElem? es)
      have ekS : keyAt S i = key := by
        unfold keyAt
        rw [List.getD_eq_getElem?_getD, es]
        rfl
      have gT : Gr Gi H1 Gi (upd H1 Tt (.tup [.int (i : Nat), .ref pe])) := (Gr.refl g.sub).tmp hT
      have g2 : GrP o.has G H Gi (upd H1 Tt (.tup [.int (i : Nat), .ref pe])) := g.trans (GrP.of gT)
      have hA2 := hA.gr gT
      have hTT : (upd H1 Tt (.tup [.int (i : Nat), .ref pe])) Tt = some (.tup [.int (i : Nat), .ref pe]) := upd_same
      have hW2 : (upd H1 Tt (.tup [.int (i : Nat), .ref pe])) W = some (.lst (refsO os)) := gT.keep _ _ hW1
      generalize upd H1 Tt (.tup [.int (i : Nat), .ref pe]) = HT at g2 hA2 hTT hW2 gT ⊢
      refine ⟨Tt, _, rfl, hTT, rfl, _, _, rfl, _, _, rfl, ⟨pe, _, rfl, pk g2 hpe, rfl, _, _, rfl, _, _, rfl, rfl, rfl, ?_⟩⟩
      -- later = []
      refine ⟨Nat.zero_le _, fun D hD => ?_⟩
      have hDH : H D = none := by
        cases q : H D with
        | none => rfl
        | some x => exact absurd hD (g2.there D (by rw [q]; exact nofun))
      have gD : Gi D = none := g2.sub.free hD
      have nDW : D ≠ W := fun e => by rw [e, hW2] at hD; cases hD
      have gt : Gr Gi HT Gi (upd HT D (.lst [])) := (Gr.refl g2.sub).tmp hD
      refine ⟨_, rfl, W, rfl, ⟨_, sqL (gt.keep _ _ hW2)⟩, ?_⟩
      have hwl := hA.length
      refine for_it (walkL (K := K) (a := W) (xs := refsO os)) (innerP Cw C G H o v a W D L S w0 os ws i key dn)
        ⟨v8, v9, v10, v11, v12, Gi, [], [], rfl, g2.trans (GrP.of gt), gW, gt.keep _ _ hW2, gD, upd_same, .nil, hA2.gr gt, hdis, hfr, rfl, (fun _ h => by cases h), Nat.zero_le _⟩ (fun j σ H' _ h => ?_) (fun j y σ H3 H4 hj h yy => ?_) fun σ H3 h => ?_
      · obtain ⟨_, _, _, _, _, _, _, _, _, _, _, h, _⟩ := h
        exact h
      · obtain ⟨v8, v9, v10, v11, v12, Gj, os', ws', rfl, gj, gjW, hjW, gjD, hjD, hA', hAd, hdj, hfj, hflat, hok', hl'⟩ := h
        obtain ⟨rfl, hy⟩ := yy
        have hjo : j < os.length := by simpa [refsO] using hj
        have hjw : j < ws.length := by omega
        have eo : os.drop j = os[j]'hjo :: os.drop (j + 1) := List.drop_eq_getElem_cons hjo
        have ew : ws.drop j = ws[j]'hjw :: ws.drop (j + 1) := List.drop_eq_getElem_cons hjw
        have hoksj := hoks _ (List.getElem_mem hjw)
        obtain rfl : y = V.ref (os[j]'hjo).wy := by
          have : (refsO os)[j]? = some (V.ref (os[j]'hjo).wy) := by simp [refsO, hjo]
          exact Option.some.inj (hy.symm.trans this)
        generalize os[j]'hjo = oj at eo ⊢
        generalize ws[j]'hjw = wj at ew hoksj ⊢
        rw [eo] at hAd hdj hfj
        rw [ew] at hAd hflat
        obtain ⟨hwj, hAr⟩ : WyAt Cw C Gj H4 oj L wj ∧ AW Cw C Gj H4 L (os.drop (j + 1)) (ws.drop (j + 1)) := by
          cases hAd with
          | cons h t => exact ⟨h, t⟩
        obtain ⟨hd1, hd2, hd3⟩ := List.pairwise_append.mp hdj
        obtain ⟨hd4, hd5⟩ := List.pairwise_cons.mp hd2
        have hd6 : ∀ o1 ∈ os', Disj o1 oj := fun o1 h1 => hd3 o1 h1 oj List.mem_cons_self
        have hfoj : ∀ b, oj.has b → o.has b ∨ H b = none := fun b hb => hfj oj (by simp) b hb
        have hsz := hoksj.1
        have hok400 : WyOk L wj 400 := ⟨hsz.bd, by have := hsz.sz; omega, hsz.tl, hsz.bi, by have := hsz.bl; omega, by have := hsz.cl; omega, by have := hsz.rl; omega⟩
        obtain ⟨dxw, wb, wt, wc, wr, hjob, _⟩ := id hwj.ob
        obtain ⟨la, dxp, hjp, _⟩ := id hwj.pl.ob
        -- the way of a step without a choice, from play's promise on
        have plainCase : ∀ (G5 H5 G6 H6 : Hp) (c9 : Option V), mAsked L S i (key, dn) wj.pl = none → Gr Gj H4 G5 H5 → GrP oj.has G5 H5 G6 H6 → WyAt Cw C G6 H6 oj L (mPlay L wj (key, dn)) → H6 D = some (.lst (refsO os')) ∧ (refsO os').length < sizeLine ∧
            innerP Cw C G H o v a W D L S w0 os ws i key dn (j + 1) [some v, some (.ref a), some (.ref o.wy), some (.ref W), some (.int (i : Nat)), some (.int key), some (.str (wayS dn)), some (.ref D), some (.ref oj.wy), c9, v10, v11, v12] (upd H6 D (.lst (refsO os' ++ [.ref oj.wy]))) := fun G5 H5 G6 H6 c9 hask g5 g6 hw6 => by
          have hD6 : H6 D = some (.lst (refsO os')) := g6.keep _ _ (notlist hwj hjD) (g5.keep _ _ hjD)
          have g06 : GrP o.has G H G6 H6 := (gj.trans (GrP.of g5)).step g6 hfoj
          have gD6 : G6 D = none := GrP.out g6 (g5.keep _ _ hjD) (g5.out hjD gjD)
          have hW6 : H6 W = some (.lst (refsO os)) := g6.keep _ _ (notlist hwj hjW) (g5.keep _ _ hjW)
          have gW6 : G6 W = none := GrP.out g6 (g5.keep _ _ hjW) (g5.out hjW gjW)
          have hA6 : AW Cw C G6 H6 L os' ws' := (hA'.gr g5).grP g6 fun o1 h1 b hb => hd6 o1 h1 b hb
          have hAr6 : AW Cw C G6 H6 L (os.drop (j + 1)) (ws.drop (j + 1)) := (hAr.gr g5).grP g6 fun o1 h1 b hb hz => hd4 o1 h1 b hz hb
          refine ⟨hD6, small1000 (by
            have := len_of (m := os'.length) (by omega : i ≤ 8) hlen (by omega)
            simpa [refsO] using this), some (.ref oj.wy), c9, v10, v11, v12, G6, os' ++ [oj], ws' ++ [mPlay L wj (key, dn)], rfl, g06.setD hDH gD6, gW6, by rw [upd_ne nDW.symm]; exact hW6, gD6, ?_, (hA6.append (.cons hw6 .nil)).upd_list hD6, hAr6.upd_list hD6, ?_, ?_, ?_, ?_, by simp; omega⟩
          · rw [upd_same]
            simp [refsO]
          · rw [List.append_assoc]
            exact hdj
          · intro o1 h1
            refine hfj o1 ?_
            rw [List.append_assoc] at h1
            exact h1
          · rw [← hflat, List.append_assoc]
            congr 1
            show [mPlay L wj (key, dn)] ++ _ = (nextWays L S i (key, dn) wj) ++ _
            congr 1
            unfold nextWays
            rw [hask]
          · intro w' hw'
            rcases List.mem_append.mp hw' with z | z
            · exact hok' w' z
            · rw [List.mem_singleton.mp z]
              exact ⟨play_ok hL hke hoksj.1, hoksj.2⟩
        cases dn with
        | false =>
          refine ⟨_, rfl, rfl, false, rfl, ?_⟩
          refine ⟨_, rfl, rfl, true, rfl, ?_⟩
          refine ⟨_, rfl, oj.wy, dxw, _, rfl, hjob, lw_other (by decide +kernel), _, rfl, _, rfl, ?_⟩
          refine ⟨Gj, oj, L, wj, (key, false), rfl, gj.sub, hwj, hL, hok400, hke, fun G6 H6 g6 hw6 => ?_⟩
          obtain ⟨p1, p2, p3⟩ := plainCase Gj H4 G6 H6 (some .non) rfl (Gr.refl gj.sub) g6 hw6
          exact ⟨_, rfl, .inl ⟨rfl, _, sqL p1⟩, _, rfl, D, _, _, rfl, rfl, p1, p2, p3⟩
        | true =>
          refine ⟨_, rfl, rfl, true, rfl, ?_⟩
          refine ⟨_, rfl, _, rfl, _, rfl, oj.wy, Cw, dxw, _, _, rfl, hjob, TW.cl, TW.nP, lw_player, ?_⟩
          refine ⟨Gj, .ref a, S, i, oj.p, oj.dl, oj.db, L, wj.pl, rfl, gj.sub, hu2.of gj.ext, hi2, by omega, hwj.pl, hL, hsz.bd, by have := hsz.sz; omega, by rw [ekS]; exact hke, fun x G5 H5 g5 dx5 => ?_⟩
          have hwj5 := hwj.gr g5
          cases hca : choiceAt L S i wj.pl with
          | none =>
            rw [hca] at dx5
            obtain rfl := dx5.nonE
            refine ⟨_, rfl, rfl, true, rfl, ?_⟩
            refine ⟨_, rfl, oj.wy, dxw, _, rfl, g5.keep _ _ hjob, lw_other (by decide +kernel), _, rfl, _, rfl, ?_⟩
            refine ⟨G5, oj, L, wj, (key, true), rfl, g5.sub, hwj5, hL, hok400, hke, fun G6 H6 g6 hw6 => ?_⟩
            obtain ⟨p1, p2, p3⟩ := plainCase G5 H5 G6 H6 (some .non) (by show choiceAt L S i wj.pl = none; exact hca) g5 g6 hw6
            exact ⟨_, rfl, .inl ⟨rfl, _, sqL p1⟩, _, rfl, D, _, _, rfl, rfl, p1, p2, p3⟩
          | some qt =>
            obtain ⟨q, tm⟩ := qt
            rw [hca] at dx5
            obtain ⟨pa, as, rfl, hpa, tas⟩ := Dq.tupE (show Dq G5 x (.tuple [.int (q : Nat), .int tm]) from dx5)
            obtain ⟨a1, a2, rfl, da1, da2⟩ := tas.twoE
            obtain rfl := da1.intE
            obtain rfl := da2.intE
            obtain ⟨q1, q2⟩ := choice_in hca
            refine ⟨_, rfl, rfl, false, rfl, ?_⟩
            refine ⟨by show 2 ≤ sizeLine; decide, fun tp htp => ?_⟩
            have g6 : Gr G5 H5 G5 (upd H5 tp (.tup [.str "tap", .str "hold"])) := (Gr.refl g5.sub).tmp htp
            have g46 := g5.trans g6
            have htp6 : (upd H5 tp (.tup [.str "tap", .str "hold"])) tp = some (.tup [.str "tap", .str "hold"]) := upd_same
            have hwj6 := hwj5.gr g6
            generalize upd H5 tp (.tup [.str "tap", .str "hold"]) = H6 at g6 g46 htp6 hwj6 ⊢
            refine ⟨tp, rfl, ⟨_, sqT htp6⟩, fun D2 hD2 => ?_⟩
            have gD2 : G5 D2 = none := g46.sub.free hD2
            refine lc_it (walkT (K := K) (a := tp) (xs := [.str "tap", .str "hold"])) (fun n Hn => ∃ Gn acc ows, Gr G5 H6 Gn Hn ∧ Hn D2 = some (.lst acc) ∧ Gn D2 = none ∧ OWs Cw C Gn Hn L acc ows ∧ ows.map (Option.map (·.2)) = (List.range n).map (fun m => mTurned L wj key (m == 0) (pressBd (m == 0) i q tm)) ∧ (∀ ow ∈ ows.filterMap id, ∀ b, ow.1.has b → H6 b = none) ∧ ((ows.filterMap id).map (·.1)).Pairwise Disj)
              ⟨G5, [], [], (Gr.refl g46.sub).tmp hD2, upd_same, gD2, .nil, rfl, (fun _ h => by cases h), .nil⟩ (fun n Hn _ h => ?_) (fun n z Hn Hn' hn h yz => ?_) fun Hn h => ?_
            · obtain ⟨_, _, _, gn, _⟩ := h
              exact gn.keep _ _ htp6
            · obtain ⟨Gn, acc, ows, gn, hacc, gnD, hows, hmap, hfresh, hpw⟩ := h
              obtain ⟨rfl, hz⟩ := yz
              have hn2 : n = 0 ∨ n = 1 := by simp at hn; omega
              obtain rfl : z = V.str (tapS (n == 0)) := by
                rcases hn2 with rfl | rfl
                · exact (Option.some.inj hz).symm
                · exact (Option.some.inj hz).symm
              have hwjn := hwj6.gr gn
              refine ⟨rfl, _, rfl, oj.wy, dxw, _, rfl, gn.keep _ _ (g46.keep _ _ hjob), lw_other (by decide +kernel), _, rfl, _, rfl, _, rfl, _, rfl, _, rfl, pa, _, rfl, .inr (gn.keep _ _ (g46.sub _ _ hpa)), ?_⟩
              refine ⟨Gn, (n == 0), i, q, tm, rfl, gn.sub, fun bv G7 H7 g7 db7 => ?_⟩
              have g67 := gn.trans g7
              have olen : ows.length ≤ 1 := by
                have := congrArg List.length hmap
                simp at this
                omega
              have alen : acc.length = ows.length := by rw [hows.vals, List.length_map]
              refine ⟨G7, oj, L, wj, key, (n == 0), bv, pressBd (n == 0) i q tm, rfl, g7.sub, hwjn.gr g7, hL, hok400, hke, db7, press_in (by rw [hoksj.2]; omega) (by rw [hoksj.2]; omega), fun hno G8 H8 g8 => ?_, fun w' G8 H8 o8 hyes g8 hf8 hw8 => ?_⟩
              · have g78 := g7.trans g8
                have hacc8 := g78.keep _ _ hacc
                refine ⟨acc, hacc8, small1000 (by omega), G8, acc ++ [.non], ows ++ [none], (gn.trans g78).set hD2 (g78.out hacc gnD), upd_same, g78.out hacc gnD, ((hows.gr g78).upd_list hacc8).no, ?_, ?_, ?_⟩
                · rw [List.map_append, hmap, List.range_succ, List.map_append]
                  show _ ++ [none] = _ ++ [mTurned L wj key (n == 0) (pressBd (n == 0) i q tm)]
                  rw [hno]
                · rw [List.filterMap_append]
                  simpa using hfresh
                · rw [List.filterMap_append]
                  simpa using hpw
              · have g78 := g7.trans g8
                have hacc8 := g78.keep _ _ hacc
                have hw8D : WyAt Cw C G8 (upd H8 D2 (.lst (acc ++ [.ref o8.wy]))) o8 L w' := hw8.upd_list hacc8
                refine ⟨acc, hacc8, small1000 (by omega), G8, acc ++ [.ref o8.wy], ows ++ [some (o8, w')], (gn.trans g78).set hD2 (g78.out hacc gnD), upd_same, g78.out hacc gnD, .yes hw8D ((hows.gr g78).upd_list hacc8), ?_, ?_, ?_⟩
                · rw [List.map_append, hmap, List.range_succ, List.map_append]
                  show _ ++ [some w'] = _ ++ [mTurned L wj key (n == 0) (pressBd (n == 0) i q tm)]
                  rw [hyes]
                · rw [List.filterMap_append]
                  intro ow how b hb
                  rcases List.mem_append.mp how with z1 | z1
                  · exact hfresh ow z1 b hb
                  · have : ow = (o8, w') := by simpa using z1
                    rw [this] at hb
                    exact g67.keep.free (hf8 b hb)
                · rw [List.filterMap_append, List.map_append]
                  refine List.pairwise_append.mpr ⟨hpw, by simp, fun o1 h1 o2 h2 b hb1 hb2 => ?_⟩
                  have : o2 = o8 := by simpa using h2
                  rw [this] at hb2
                  have hn1 : H7 b = none := hf8 b hb2
                  obtain ⟨ow1, how1, e1⟩ := List.mem_map.mp h1
                  -- it stands in the heap already
                  have haw := (hows.gr g7).aw
                  have key2 : ∀ {os1 : List Own} {ws1 : List Wy}, AW Cw C G7 H7 L os1 ws1 → ∀ o1 ∈ os1, ∀ b, o1.has b → H7 b ≠ none := by
                    intro os1 ws1 h
                    induction h with
                    | nil => intro o1 h1; cases h1
                    | cons hw _ ih =>
                      intro o1 h1 b hb
                      rcases List.mem_cons.mp h1 with rfl | h1
                      · obtain ⟨x, hx⟩ := hw.some_of hb
                        rw [hx]; exact nofun
                      · exact ih o1 h1 b hb
                  exact key2 haw o1 h1 b hb1 hn1
            · obtain ⟨Gn, acc, ows, gn, hacc, gnD, hows, hmap, hfresh, hpw⟩ := h
              have g4n := g46.trans gn
              have hDn : Hn D = some (.lst (refsO os')) := g4n.keep _ _ hjD
              have alen : acc.length = ows.length := by rw [hows.vals, List.length_map]
              have olen : ows.length = 2 := by
                have := congrArg List.length hmap
                simpa using this
              refine ⟨_, rfl, .inl ⟨rfl, _, sqL hDn⟩, _, rfl, D2, rfl, ⟨_, sqL hacc⟩, fun D3 hD3 => ?_⟩
              have gn3 : Gn D3 = none := gn.sub.free hD3
              refine lcRt (R := fun _ v (o1 : Own) => v = V.ref o1.wy) (G1 := Gn) (fun m => (ows[m]?).bind fun x => x.map (·.1)) (fun _ _ _ _ _ h => h) (walkL (K := K) (a := D2) (xs := acc)) (by omega) gn.sub (fun Gi Hi g => g.keep _ _ hacc) hD3 (fun m x Gi' Hi H' Ok No hm g y ok no => ?_) fun G8 H8 acc3 g8 hD8 gD8 ra => ?_
              · obtain ⟨rfl, hy⟩ := y
                rw [hows.vals, List.getElem?_map] at hy
                cases eo2 : ows[m]? with
                | none => rw [eo2] at hy; cases hy
                | some x2 =>
                  rw [eo2] at hy
                  cases x2 with
                  | none =>
                    obtain rfl := (Option.some.inj hy).symm
                    refine ⟨rfl, _, rfl, rfl, false, rfl, ?_⟩
                    refine no Gi' _ (Gr.refl g.sub) ?_
                    show (ows[m]?).bind _ = none
                    rw [eo2]; rfl
                  | some ow =>
                    obtain rfl := (Option.some.inj hy).symm
                    refine ⟨rfl, _, rfl, rfl, true, rfl, ?_⟩
                    refine ⟨_, rfl, ok _ Gi' _ ow.1 (Gr.refl g.sub) rfl ?_⟩
                    show (ows[m]?).bind _ = some ow.1
                    rw [eo2]; rfl
              · have e3 : made (fun m => (ows[m]?).bind fun x => x.map (·.1)) acc.length = (ows.filterMap id).map (·.1) := by
                  rw [alen, made_get]
                  exact fm_fst ows
                rw [e3] at ra
                have eacc3 : acc3 = refsO ((ows.filterMap id).map (·.1)) := by
                  have key2 : ∀ {xs : List V} {os1 : List Own}, RAll (fun _ v (o1 : Own) => v = V.ref o1.wy) G8 xs os1 → xs = refsO os1 := by
                    intro xs os1 h
                    induction h with
                    | nil => rfl
                    | cons h _ ih => rw [h, ih]; rfl
                  exact key2 ra
                subst eacc3
                have g48 := g4n.trans g8
                have hD8' : H8 D = some (.lst (refsO os')) := g8.keep _ _ hDn
                have gD8' : G8 D = none := g48.out hjD gjD
                have hAnew := (hows.aw).gr g8
                have hnl : ((ows.filterMap id).map (·.1)).length ≤ 2 := by
                  rw [List.length_map]
                  exact Nat.le_trans (List.length_filterMap_le _ _) (by omega)
                have enew : (ows.filterMap id).map (·.2) = nextWays L S i (key, true) wj := by
                  have e4 : (ows.map (Option.map (·.2))).filterMap id = (ows.filterMap id).map (·.2) := by
                    clear hmap hfresh hpw hows alen olen e3 ra hAnew hnl hD8
                    induction ows with
                    | nil => rfl
                    | cons x r ih => cases x <;> simp [ih]
                  rw [← e4, hmap]
                  unfold nextWays
                  have e5 : mAsked L S i (key, true) wj.pl = some (q, tm) := hca
                  rw [e5]
                  exact fm_two fun tap => mTurned L wj key tap (pressBd tap i q tm)
                have fr4 : ∀ o1 ∈ (ows.filterMap id).map (·.1), ∀ b, o1.has b → H4 b = none := fun o1 h1 b hb => by
                  obtain ⟨ow, how, e6⟩ := List.mem_map.mp h1
                  rw [← e6] at hb
                  exact g46.keep.free (hfresh ow how b hb)
                have frH : ∀ b, H4 b = none → H b = none := fun b hb => by
                  cases z : H b with
                  | none => rfl
                  | some x => exact absurd hb (gj.there b (by rw [z]; exact nofun))
                have olds : ∀ {os1 : List Own} {ws1 : List Wy}, AW Cw C Gj H4 L os1 ws1 → ∀ o1 ∈ os1, ∀ b, o1.has b → H4 b ≠ none := by
                  intro os1 ws1 h
                  induction h with
                  | nil => intro o1 h1; cases h1
                  | cons hw _ ih =>
                    intro o1 h1 b hb
                    rcases List.mem_cons.mp h1 with rfl | h1
                    · obtain ⟨x, hx⟩ := hw.some_of hb
                      rw [hx]; exact nofun
                    · exact ih o1 h1 b hb
                refine ⟨D, D3, _, _, rfl, rfl, hD8', hD8, small (by
                  have := len_of (m := os'.length + 2) (by omega : i ≤ 8) hlen (by omega)
                  simp only [refsO, List.length_map] at hnl ⊢
                  omega), ?_⟩
                refine ⟨some (.ref oj.wy), _, _, _, _, G8, os' ++ (ows.filterMap id).map (·.1), ws' ++ (ows.filterMap id).map (·.2), rfl, (gj.trans (GrP.of g48)).setD hDH gD8', g48.out hjW gjW, by rw [upd_ne nDW.symm]; exact g48.keep _ _ hjW, gD8', ?_, ((hA'.gr g48).append hAnew).upd_list hD8', (hAr.gr g48).upd_list hD8', ?_, ?_, ?_, ?_, by rw [List.length_append]; omega⟩
                · rw [upd_same]
                  simp [refsO]
                · rw [List.append_assoc]
                  refine List.pairwise_append.mpr ⟨hd1, List.pairwise_append.mpr ⟨hpw, hd5, fun o1 h1 o2 h2 b hb1 hb2 => ?_⟩, fun o1 h1 o2 h2 => ?_⟩
                  · exact olds hAr o2 h2 b hb2 (fr4 o1 h1 b hb1)
                  · rcases List.mem_append.mp h2 with z | z
                    · intro b hb1 hb2
                      exact olds hA' o1 h1 b hb1 (fr4 o2 z b hb2)
                    · exact hd3 o1 h1 o2 (List.mem_cons_of_mem _ z)
                · intro o1 h1 b hb
                  rw [List.append_assoc] at h1
                  rcases List.mem_append.mp h1 with z | z
                  · exact hfj o1 (List.mem_append_left _ z) b hb
                  · rcases List.mem_append.mp z with z | z
                    · exact .inr (frH b (fr4 o1 z b hb))
                    · exact hfj o1 (List.mem_append_right _ (List.mem_cons_of_mem _ z)) b hb
                · rw [← hflat, List.append_assoc, enew]
                  rfl
                · intro w' hw'
                  rcases List.mem_append.mp hw' with z | z
                  · exact hok' w' z
                  · rw [enew] at z
                    unfold nextWays at z
                    have e5 : mAsked L S i (key, true) wj.pl = some (q, tm) := hca
                    rw [e5] at z
                    obtain ⟨tap, _, htap⟩ := List.mem_filterMap.mp z
                    have := turned_ok hL hke hoksj.1 (press_in (by rw [hoksj.2]; omega) (by rw [hoksj.2]; omega)) htap
                    exact ⟨this.1, this.2.trans hoksj.2⟩
      · obtain ⟨v8, v9, v10, v11, v12, Gj, os', ws', rfl, gj, gjW, hjW, gjD, hjD, hA', hAd, hdj, hfj, hflat, hok', hl'⟩ := h
        have e5 : os.drop (refsO os).length = [] := List.drop_eq_nil_of_le (by simp [refsO])
        have e6 : ws.drop (refsO os).length = [] := List.drop_eq_nil_of_le (by simp [refsO]; omega)
        rw [e5] at hdj hfj
        rw [e6] at hflat
        rw [List.append_nil] at hdj hfj
        have hflat2 : ws' = ws.flatMap (nextWays L S i (key, dn)) := by rw [← hflat]; simp
        refine ⟨_, rfl, some (.int (i : Nat)), some (.int key), some (.str (wayS dn)), some (.ref D), v8, v9, v10, v11, v12, D, Gj, os', ws', rfl, gj, hDH, gjD, hjD, hA', hdj, hfj, ?_, hok', ?_⟩
        · rw [hflat2]
          exact hgo
        · rw [Nat.pow_succ]
          simp only [refsO, List.length_map] at hl'
          omega
    · obtain ⟨v4, v5, v6, v7, v8, v9, v10, v11, v12, W, Gi, os, ws, rfl, g, hWH, gW, hW1, hA, hdis, hfr, hgo, hoks, hlen⟩ := h
      have e1 : S.drop xs.length = [] := List.drop_eq_nil_of_le (by omega)
      rw [e1] at hgo
      have hgo2 : ws = mWays L S w0 := hgo
      subst hgo2
      refine ⟨_, rfl, k W os Gi H1 g hWH gW hW1 ?_ hA⟩
      exact Nat.le_trans hlen (Nat.le_trans (Nat.pow_le_pow_right (by decide) (by omega : xs.length ≤ 8)) (by decide))
end
end HT7
end partW15
section partW16
set_option Elab.async false
set_option linter.all false
set_option maxRecDepth 100000
namespace HT7
open PySem PySem.Spec PyProof.Rows L2 HT5 HT6
def HalfOk (L : Lay) (half : List Int) : Prop := (∀ k ∈ half, 0 ≤ k ∧ k < mWide L) ∧ half.Pairwise (· < ·)
def sp_require_keys : Sp := fun vs H Q _ => ∃ (v u : V) (L : Lay) (half : List Int), vs = [v, u] ∧ Dq H v (layD L) ∧ LayOk L ∧ Dq H u (intsD half) ∧ HalfOk L half ∧ half.length ≤ 1000 ∧ ∀ H', Same H H' → Q .non H'
def sp_require_arguments : Sp := fun vs H Q _ => ∃ (v u x : V) (L : Lay) (R : List Ev) (half : List Int) (late : Int), vs = [v, u, x, .int late] ∧ Dq H v (layD L) ∧ LayOk L ∧ Dq H u (recD R) ∧ RecOk (mWide L) R ∧ R.length ≤ 8 ∧ Dq H x (intsD half) ∧ HalfOk L half ∧ half.length ≤ 1000 ∧ 0 ≤ late ∧ late ≤ 1000000000 ∧ ∀ H', Same H H' → Q .non H'
section
variable {P : Program} {w : World} {K : PySem.W.Frag} {mg : Str → Option Value} {base : Heap}
abbrev srequire_keys : Stmt := top 49
abbrev Nrequire_keys : List PySem.Str := ["layout", "keys", "key", "one", "other"]
abbrev Prequire_keys : List PySem.Str := ["layout", "keys"]
theorem screquire_keys : FnScope Nrequire_keys Prequire_keys (defScope srequire_keys) := ⟨rfl, rfl, rfl, by decide +kernel, rfl, by decide +kernel, by decide +kernel⟩
theorem ok_require_keys {f : Addr} {fd : FuncData} (F : Fun K "require_keys" "require_keys" srequire_keys f fd) (B : Bt mg) (c_is_integer : C8.Cal P w K mg base 1 "is_integer" sp_is_integer []) : FnOk P w K mg base CX0 2 f fd Prequire_keys sp_require_keys := by
  refine F.ok screquire_keys (fun vs H Q E h => ?_) (fun cdv A outer s H vs Q E hr h => ?_)
  · obtain ⟨v, u, L, half, rfl, _⟩ := h
    rfl
  · obtain ⟨v, u, L, half, rfl, hv, hL, hu, ⟨hh1, hh2⟩, hlen, k⟩ := h
    have nd := screquire_keys.nd
    obtain ⟨a, xs, rfl, ha, t⟩ := Dq.lstE hv
    obtain ⟨b, ys, rfl, hb, tb⟩ := Dq.lstE hu
    obtain rfl := dp_intsE tb
    obtain ⟨r0, L', rfl⟩ : ∃ r0 L', L = r0 :: L' := by
      cases L with
      | nil => have := hL.h1; simp at this
      | cons r L' => exact ⟨r, L', rfl⟩
    obtain ⟨v0, xs', rfl, hv0, t0⟩ := t.consE
    obtain ⟨p0, as0, rfl, hp0, ta0⟩ := hv0.lstE
    have hl0 : as0.length = r0.length := by rw [ta0.length, List.length_map]
    have hw : mWide (r0 :: L') = r0.length := rfl
    refine ⟨_, (pss_cons (ps_if (PW.pt (pw_or (pt_not (pt_val (pe_callB call_isQ (by rfl) B.isinstance (by decide +kernel) (pa_cons (pv 1) (pa_cons (pe_bltn (v := .ty "list") (by rfl) B.list (by decide +kernel) rfl) pa_nil))))) (pw_or1 (pt_not (pt_val (pe_callB (allq rfl) (by rfl) B.all (by decide +kernel) (pa_cons (pe_lc (own := [("key", 2)]) rfl nd (pi_list (pv 1)) (blkOk_by (own := [("key", 2)]) (N := Nrequire_keys) (sc := defScope srequire_keys) (by decide +kernel)) (fun _ _ _ _ _ => (pg_name (i := 2) nd rfl (Or.inl rfl))) (fun _ _ _ _ _ => pts_nil) (fun _ _ _ _ _ => (C8.pe_c c_is_integer hr (by decide) rfl (pa_cons (pv 2) (pa_cons pe_int (pa_cons (pe_op op_sub (pe_callB lenLq (by rfl) B.len (by decide +kernel) (pa_cons (pe_ix ixlq (pv 0) pe_int (fun _ _ => rfl)) pa_nil)) pe_int) pa_nil)))))) pa_nil))))))) pss_never pss_nil)
    (pss_one (ps_if (pt_not (pt_val (pe_callB (allq rfl) (by rfl) B.all (by decide +kernel) (pa_cons (pe_lc (own := [("one", 3), ("other", 4)]) rfl nd (pi_zip (by rfl) B.zip (pa_cons (pv 1) (pa_cons (pe_slice slLq (pv 1) (po_some pe_int) po_none) pa_nil))) (blkOk_by (own := [("one", 3), ("other", 4)]) (N := Nrequire_keys) (sc := defScope srequire_keys) (by decide +kernel)) (fun _ _ _ _ _ => (pg_tupq (n := 2) rfl (pgs_cons (pg_name (i := 3) nd rfl (Or.inl rfl)) (pgs_cons (pg_name (i := 4) nd rfl (Or.inl rfl)) pgs_nil)))) (fun _ _ _ _ _ => pts_nil) (fun _ _ _ _ _ => (pe_cmpR op_lt (pv 3) (pv 4) (by first | exact nomark _ | rfl)))) pa_nil)))) pss_never pss_nil))), ?_⟩
    refine ⟨_, rfl, _, "list", _, rfl, hu, by simp, nofun, nofun, true, rfl, ?_⟩
    refine ⟨_, rfl, b, rfl, ⟨_, sqL hb⟩, fun D hD => ?_⟩
    refine lcT (walkL (K := K) (a := b) (xs := half.map V.int)) (by rw [List.length_map]; omega) (fun Hi s1 => s1 _ _ hb) hD (fun i x Hi H' Ok hi s1 y ok => ?_) (fun H1 s1 hD1 => ?_) gName_mono tYes_mono
    · obtain ⟨rfl, hy⟩ := y
      rw [List.getElem?_map] at hy
      cases eh : half[i]? with
      | none => rw [eh] at hy; cases hy
      | some kk =>
        rw [eh] at hy
        obtain rfl := (Option.some.inj hy).symm
        have hk := hh1 kk (List.mem_of_getElem? eh)
        refine ⟨rfl, _, rfl, _, rfl, a, _, _, V.ref p0, rfl, rfl, s1 _ _ ha, atI_nat (j := 0) rfl, p0, _, rfl, s1 _ _ hp0, _, _, rfl, rfl, kk, some 0, some _, rfl, ?_⟩
        have e : inRange kk (some 0) (some ((as0.length : Int) - 1)) = true := by
          rw [hw] at hk
          have h2 : kk ≤ (as0.length : Int) - 1 := by omega
          simp only [inRange, decide_eq_true hk.1, decide_eq_true h2, Bool.and_self]
        rw [e]
        exact ok _ (Same.refl _)
    refine ⟨D, _, rfl, by rw [hD1, all_tt], ?_⟩
    rw [all_id]
    refine ⟨true, rfl, ?_⟩
    refine ⟨_, rfl, _, rfl, _, rfl, b, _, rfl, s1 _ _ hb, fun q hq => ?_⟩
    rw [cut1]
    have s2 : Same H (upd H1 q (.lst ((half.map V.int).drop 1))) := s1.trans (same_new hq)
    refine ⟨b, q, _, _, rfl, sqL (s2 _ _ hb), sqL upd_same, fun D2 hD2 => ?_⟩
    have hqq : (upd H1 q (.lst ((half.map V.int).drop 1))) q = some (.lst ((half.map V.int).drop 1)) := upd_same
    generalize upd H1 q (.lst ((half.map V.int).drop 1)) = H2 at s2 hqq hD2 ⊢
    refine lcT (walkZ (K := K) (a := b) (b := q) (xs := half.map V.int) (ys := (half.map V.int).drop 1) rfl) (by simp; omega) (fun Hi s3 => ⟨s3 _ _ (s2 _ _ hb), s3 _ _ hqq⟩) hD2 (fun i x Hi H' Ok hi s3 y ok => ?_) (fun H3 s3 hD3 => ?_) gTup2_mono tYes_mono
    · obtain ⟨T2, x1, x2, rfl, hT2, rfl, e3, e4⟩ := y
      simp only [List.length_map, List.length_drop] at hi
      have hi1 : i < half.length := by omega
      have hi2 : i + 1 < half.length := by omega
      have f1 : (half.map V.int)[i]? = some (V.int (half[i]'hi1)) := by simp [hi1]
      have f2 : ((half.map V.int).drop 1)[i]? = some (V.int (half[i + 1]'hi2)) := by
        rw [List.getElem?_drop, Nat.add_comm 1 i]
        simp [hi2]
      obtain rfl := Option.some.inj (e3.symm.trans f1)
      obtain rfl := Option.some.inj (e4.symm.trans f2)
      refine ⟨T2, _, rfl, upd_same, rfl, _, _, rfl, _, _, rfl, rfl, rfl, _, rfl, _, rfl, _, _, rfl, rfl, ?_⟩
      have hlt : half[i]'hi1 < half[i + 1]'hi2 := List.pairwise_iff_getElem.mp hh2 _ _ hi1 hi2 (by omega)
      have e : decide (half[i]'hi1 < half[i + 1]'hi2) = true := decide_eq_true hlt
      show Ok (V.bl (decide (half[i]'hi1 < half[i + 1]'hi2))) _
      rw [e]
      exact ok _ (same_new hT2)
    refine ⟨D2, _, rfl, by rw [hD3, all_tt], ?_⟩
    rw [all_id]
    exact ⟨true, rfl, k _ (s2.trans s3)⟩
abbrev srequire_arguments : Stmt := top 50
abbrev Nrequire_arguments : List PySem.Str := ["layout", "record", "keys", "late"]
abbrev Prequire_arguments : List PySem.Str := ["layout", "record", "keys", "late"]
theorem screquire_arguments : FnScope Nrequire_arguments Prequire_arguments (defScope srequire_arguments) := ⟨rfl, rfl, rfl, by decide +kernel, rfl, by decide +kernel, by decide +kernel⟩
theorem ok_require_arguments {f : Addr} {fd : FuncData} (F : Fun K "require_arguments" "require_arguments" srequire_arguments f fd) (B : Bt mg) (T : Tc mg K) (c_require_layout : C8.Cal P w K mg base 5 "require_layout" sp_require_layout []) (c_require_record : C8.Cal P w K mg base 6 "require_record" sp_require_record []) (c_require_keys : C8.Cal P w K mg base 2 "require_keys" sp_require_keys []) (c_is_integer : C8.Cal P w K mg base 1 "is_integer" sp_is_integer []) : FnOk P w K mg base CX0 7 f fd Prequire_arguments sp_require_arguments := by
  refine F.ok screquire_arguments (fun vs H Q E h => ?_) (fun cdv A outer s H vs Q E hr h => ?_)
  · obtain ⟨v, u, x, L, R, half, late, rfl, _⟩ := h
    rfl
  · obtain ⟨v, u, x, L, R, half, late, rfl, hv, hL, hu, hR, hR8, hx, hh, hhl, h0, h9, k⟩ := h
    have nd := screquire_arguments.nd
    obtain ⟨a, xs, rfl, ha, t⟩ := Dq.lstE hu
    have hxl : xs.length = R.length := by rw [t.length, List.length_map]
    refine ⟨_, (pss_cons (ps_expr (C8.pe_c c_require_layout hr (by decide) rfl (pa_cons (pv 0) pa_nil)))
    (pss_cons (ps_expr (C8.pe_c c_require_record hr (by decide) rfl (pa_cons (pv 0) (pa_cons (pv 1) pa_nil))))
    (pss_cons (ps_expr (C8.pe_c c_require_keys hr (by decide) rfl (pa_cons (pv 0) (pa_cons (pv 2) pa_nil))))
    (pss_cons (ps_if (pt_not (pt_val (C8.pe_c c_is_integer hr (by decide) rfl (pa_cons (pv 3) (pa_cons pe_int (pa_cons (C8.pe_gc rfl T.MOST_LATE) pa_nil)))))) pss_never pss_nil)
    (pss_one (ps_if (pt_cmpR op_gt (pe_callB lenLq (by rfl) B.len (by decide +kernel) (pa_cons (pv 1) pa_nil)) (C8.pe_gc rfl T.MOST_EVENTS_halves) (by first | exact nomark _ | rfl)) pss_never pss_nil)))))), ?_⟩
    refine ⟨_, rfl, v, L, rfl, hv, hL, fun H1 s1 => ?_⟩
    refine ⟨_, rfl, _, rfl, v, .ref a, L, R, rfl, hv.of s1, hL, hu.of s1, hR, fun H2 s2 => ?_⟩
    have s12 := s1.trans s2
    refine ⟨_, rfl, _, rfl, v, x, L, half, rfl, hv.of s12, hL, hx.of s12, hh, hhl, fun H3 s3 => ?_⟩
    have s13 := s12.trans s3
    refine ⟨_, rfl, late, some 0, some 1000000000, rfl, ?_⟩
    have e : inRange late (some 0) (some 1000000000) = true := by simp [inRange, h0, h9]
    rw [e]
    refine ⟨true, rfl, ?_⟩
    refine ⟨_, rfl, a, xs, rfl, s13 _ _ ha, _, _, rfl, rfl, _, rfl, ?_⟩
    have e2 : decide ((8 : Int) < (xs.length : Int)) = false := decide_eq_false (by omega)
    rw [e2]
    exact k _ s13
end
/-! what is true of all ways -/
structure WOut (L : Lay) (T : Nat) (w : Wy) : Prop where
  bd : BdOk L w.pl
  out : ∀ o ∈ w.res, OutOk o
  tl : w.ticks.length = T
theorem plain_out {L : Lay} (hL : LayOk L) {st : Pl} {s : Stp} (hk : 0 ≤ s.1 ∧ s.1 < mWide L) (hb : BdOk L st) : OutOk (mPlain L st s).1 := by
  unfold mPlain
  split
  · exact down_out hL hk
  · exact up_out hb
theorem next_out {L : Lay} (hL : LayOk L) {S : List Stp} {n : Nat} {s : Stp} (hk : 0 ≤ s.1 ∧ s.1 < mWide L) {T : Nat} {w w' : Wy} (h : WOut L T w) (hm : w' ∈ nextWays L S n s w) : WOut L T w' := by
  unfold nextWays at hm
  split at hm
  · rw [List.mem_singleton.mp hm]
    refine ⟨(plain_ok hL hk h.bd).1, fun o ho => ?_, h.tl⟩
    rcases List.mem_append.mp (show o ∈ w.res ++ [(mPlain L w.pl s).1] from ho) with z | z
    · exact h.out o z
    · rw [List.mem_singleton.mp z]; exact plain_out hL hk h.bd
  · obtain ⟨tap, _, e⟩ := List.mem_filterMap.mp hm
    obtain ⟨t, h1, rfl⟩ := turned_eq e
    refine ⟨(down_ok hL hk h.bd).1, fun o ho => ?_, (lifted_len h1).trans h.tl⟩
    rcases List.mem_append.mp (show o ∈ w.res ++ [(mDown L w.pl s.1 tap).1] from ho) with z | z
    · exact h.out o z
    · rw [List.mem_singleton.mp z]; exact down_out hL hk
theorem waysGo_out {L : Lay} (hL : LayOk L) {S : List Stp} {T : Nat} : ∀ {S' : List Stp} {n : Nat} {ws : List Wy}, (∀ s ∈ S', 0 ≤ s.1 ∧ s.1 < mWide L) → (∀ w ∈ ws, WOut L T w) → ∀ w ∈ waysGo L S n ws S', WOut L T w
  | [], n, ws, _, h, w, hw => h w hw
  | s :: r, n, ws, hk, h, w, hw => waysGo_out hL (fun x hx => hk x (List.mem_cons_of_mem _ hx)) (fun w' hw' => by
      obtain ⟨w0, h0, h1⟩ := List.mem_flatMap.mp hw'
      exact next_out hL (hk s List.mem_cons_self) (h w0 h0) h1) w hw
theorem mergeF_sub : ∀ (f : Nat) (a b r : List Nat), r ∈ mergeF f a b → ∀ n ∈ r, n ∈ a ∨ n ∈ b
  | 0, a, b, r, hr, n, hn => by
    have : r = a ++ b := by simpa [mergeF] using hr
    rw [this] at hn
    exact List.mem_append.mp hn
  | f + 1, [], b, r, hr, n, hn => by
    have : r = b := by simpa [mergeF] using hr
    rw [this] at hn
    exact .inr hn
  | f + 1, a :: as, [], r, hr, n, hn => by
    have : r = a :: as := by simpa [mergeF] using hr
    rw [this] at hn
    exact .inl hn
  | f + 1, a :: as, b :: bs, r, hr, n, hn => by
    rcases List.mem_append.mp (show r ∈ (mergeF f as (b :: bs)).map (a :: ·) ++ (mergeF f (a :: as) bs).map (b :: ·) from hr) with h1 | h1
    · obtain ⟨r', h2, rfl⟩ := List.mem_map.mp h1
      rcases List.mem_cons.mp hn with z | z
      · exact .inl (by rw [z]; exact List.mem_cons_self)
      · exact (mergeF_sub f as (b :: bs) r' h2 n z).imp (List.mem_cons_of_mem _) id
    · obtain ⟨r', h2, rfl⟩ := List.mem_map.mp h1
      rcases List.mem_cons.mp hn with z | z
      · exact .inr (by rw [z]; exact List.mem_cons_self)
      · exact (mergeF_sub f (a :: as) bs r' h2 n z).imp id (List.mem_cons_of_mem _)
theorem two_len (p : Nat → Bool) (l : List Nat) : (l.filter fun n => !p n).length + (l.filter p).length = l.length := by
  induction l with
  | nil => rfl
  | cons a r ih =>
    cases h : p a <;> simp [h] <;> omega
theorem row_ok {R : List Ev} {half : List Int} {row : List Nat} (h : row ∈ rowsOf R half) : row.length = R.length ∧ ∀ n ∈ row, n < R.length := by
  constructor
  · have := mergeF_mem _ _ _ row (Nat.le_refl _) h
    rw [this]
    have := two_len (inHalf half R) (List.range R.length)
    simpa [hereOf, thereOf] using this
  · intro n hn
    rcases mergeF_sub _ _ _ _ h n hn with z | z
    · exact List.mem_range.mp (List.mem_filter.mp z).1
    · exact List.mem_range.mp (List.mem_filter.mp z).1
theorem rows_len {R : List Ev} {half : List Int} (h : R.length ≤ 8) : (rowsOf R half).length ≤ 256 := by
  have e := two_len (inHalf half R) (List.range R.length)
  have e2 : (hereOf R half).length + (thereOf R half).length = R.length := by simpa [hereOf, thereOf] using e
  refine Nat.le_trans (mergeF_len _ _ _ (Nat.le_refl _)) ?_
  rw [e2]
  exact Nat.le_trans (Nat.pow_le_pow_right (by decide) h) (by decide)
theorem rep_flat (n : Nat) (x : V) : (List.replicate n [x]).flatten = List.replicate n x := by
  induction n with
  | zero => rfl
  | succ n ih => rw [List.replicate_succ, List.flatten_cons, ih]; rfl
theorem delaysGo_len {R : List Ev} {t : List Int} : ∀ {e : List (Nat × Nat)} {ds : List Int}, (delaysGo R t ds e).length = ds.length
  | [], _ => rfl
  | (p, n) :: r, ds => by
    show (delaysGo R t (ds.set n _) r).length = _
    rw [delaysGo_len, List.length_set]
def sp_arrivals : Sp := fun vs H Q _ => ∃ (G : Hp) (v u x : V) (L : Lay) (R : List Ev) (half : List Int), vs = [v, u, x] ∧ Same G H ∧ Dq G v (layD L) ∧ LayOk L ∧ Dq G u (recD R) ∧ KeysOk L R ∧ R.length ≤ 8 ∧ Dq G x (intsD half) ∧
  ∀ y G' H', Gr G H G' H' → Dq G' y (.list ((mArrivals L R half).map arrD)) → Q y H'
end HT7
end partW16
section partW17
set_option Elab.async false
set_option linter.all false
set_option maxRecDepth 100000
namespace HT7
open PySem PySem.Spec PyProof.Rows L2 HT5 HT6
theorem small_lt {n : Nat} (h : n < 100000) : n < sizeLine := Nat.lt_of_lt_of_le h (by decide)
/-- ahead of the i-th row -/
def rowP (G H Gb : Hp) (la pa pb D3 D6 D7 : Addr) (L : Lay) (R : List Ev) (half : List Int) (rows : List (List Nat)) : Nat → L2.St → Hp → Prop := fun i σ H' =>
  ∃ v4 v5 v8 v9 v10 v11 v12 v13 v14 v15 Gi acc done, σ = [some (.ref la), some (.ref pa), some (.ref pb), some (.ref D3), v4, v5, some (.ref D6), some (.ref D7), v8, v9, v10, v11, v12, v13, v14, v15] ∧ Gr G H Gi H' ∧ Same Gb Gi ∧ H' D7 = some (.lst acc) ∧ Gi D7 = none ∧ DqAll Gi acc (done.map arrD) ∧ done ++ (rows.drop i).flatMap (rowArr L R half) = mArrivals L R half ∧ done.length ≤ 256 * i
/-- within it: ahead of the m-th way -/
def wayP (Cw C : Addr) (G H Gb : Hp) (la pa pb D3 D6 D7 r8 b9 t10 o11 q : Addr) (L : Lay) (R : List Ev) (half : List Int) (row : List Nat) (os : List Own) (ws : List Wy) (done0 : List Arr) : Nat → L2.St → Hp → Prop := fun m σ H' =>
  ∃ v4 v5 v12 v13 v14 v15 Gi acc done, σ = [some (.ref la), some (.ref pa), some (.ref pb), some (.ref D3), v4, v5, some (.ref D6), some (.ref D7), some (.ref r8), some (.ref b9), some (.ref t10), some (.ref o11), v12, v13, v14, v15] ∧ Gr G H Gi H' ∧ Same Gb Gi ∧ H' D7 = some (.lst acc) ∧ Gi D7 = none ∧ DqAll Gi acc (done.map arrD) ∧ H' q = some (.lst (refsO os)) ∧ AW Cw C Gi H' L os ws ∧ done ++ (ws.drop m).map (arrOf R row) = done0 ++ ws.map (arrOf R row) ∧ done.length ≤ done0.length + m
theorem AW.at {Cw Cp : Addr} {G H : Hp} {L : Lay} {os : List Own} {ws : List Wy} (h : AW Cw Cp G H L os ws) {i : Nat} {o : Own} (e : os[i]? = some o) : ∃ w, ws[i]? = some w ∧ WyAt Cw Cp G H o L w := by
  induction h generalizing i with
  | nil => cases e
  | cons hw _ ih =>
    cases i with
    | zero =>
      have : o = _ := (Option.some.inj e).symm
      subst this
      exact ⟨_, rfl, hw⟩
    | succ i => exact ih e
theorem last_of {ts : List Int} {n : Nat} (h : ts.length = n + 1) : ∃ ws, ts = ws ++ [ts.getD n 0] := by
  have hne : ts ≠ [] := by intro e; rw [e] at h; simp at h
  refine ⟨ts.dropLast, ?_⟩
  have e := List.dropLast_concat_getLast hne
  have e2 : ts.getLast hne = ts.getD n 0 := by
    rw [List.getLast_eq_getElem]
    have h1 : ts.length - 1 = n := by omega
    have h2 : n < ts.length := by omega
    simp [h1, h2]
  rw [e2] at e
  exact e.symm
theorem made_outs (l : List Out) : made (fun j => (l[j]?).bind fun o => if o.isSome then some (outD o) else none) l.length = (l.filter (·.isSome)).map outD := by
  rw [made_get]
  induction l with
  | nil => rfl
  | cons o l ih =>
    cases o with
    | none => rw [List.filterMap_cons, List.filter_cons_of_neg (by simp)]; exact ih
    | some q => rw [List.filterMap_cons, List.filter_cons_of_pos (by simp)]; simp [ih]
theorem waysGo_len {L : Lay} {S : List Stp} : ∀ {S' : List Stp} {n m : Nat} {ws : List Wy}, (∀ w ∈ ws, w.res.length = m) → ∀ w ∈ waysGo L S n ws S', w.res.length = m + S'.length
  | [], n, m, ws, h, w, hw => h w hw
  | s :: r, n, m, ws, h, w, hw => by
    have := waysGo_len (S' := r) (n := n + 1) (m := m + 1) (ws := ws.flatMap (nextWays L S n s)) (fun w' hw' => by
      obtain ⟨w0, h0, h1⟩ := List.mem_flatMap.mp hw'
      have e0 := h w0 h0
      unfold nextWays at h1
      split at h1
      · rw [List.mem_singleton.mp h1]
        show (w0.res ++ [_]).length = _
        simp [e0]
      · obtain ⟨tap, _, e⟩ := List.mem_filterMap.mp h1
        obtain ⟨t, _, rfl⟩ := turned_eq e
        show (w0.res ++ [_]).length = _
        simp [e0]) w hw
    rw [this, List.length_cons]
    omega
theorem arr_in (R : List Ev) (half : List Int) (row : List Nat) : BdIn (row.length + 2) (arrBounds R half row) := by
  intro b hb
  unfold arrBounds at hb
  rcases List.mem_append.mp hb with h | h
  · obtain ⟨p, hp, rfl⟩ := List.mem_map.mp h
    have := List.mem_range.mp hp
    exact ⟨by show p < _; omega, by show p + 1 < _; omega⟩
  · obtain ⟨pn, hpn, h2⟩ := List.mem_flatMap.mp h
    have hlt : ∀ (l : List Nat) (n : Nat) (x : Nat × Nat), x ∈ enumL n l → x.1 < n + l.length := by
      intro l
      induction l with
      | nil => intro n x h; cases h
      | cons a r ih =>
        intro n x h
        rcases List.mem_cons.mp (show x ∈ (n, a) :: enumL (n + 1) r from h) with rfl | h
        · simp
        · have := ih (n + 1) x h
          simp
          omega
    have := hlt row 0 pn hpn
    unfold place2 at h2
    simp only [List.mem_cons, List.not_mem_nil, or_false] at h2
    rcases h2 with rfl | rfl
    · exact ⟨by show row.length < _; omega, by show pn.1 < _; omega⟩
    · refine ⟨by show pn.1 < _; omega, ?_⟩
      show (if inHalf half R pn.2 then row.length + 1 else row.length) < _
      split <;> omega
theorem enumL_len {α : Type} : ∀ (l : List α) (n : Nat), (enumL n l).length = l.length
  | [], n => rfl
  | x :: r, n => by show (enumL (n + 1) r).length + 1 = _; rw [enumL_len r]; rfl
theorem arr_len (R : List Ev) (half : List Int) (row : List Nat) : (arrBounds R half row).length ≤ 3 * row.length := by
  unfold arrBounds mChain
  rw [List.length_append, List.length_map, List.length_range]
  have : ∀ l : List (Nat × Nat), (l.flatMap (place2 R half row.length)).length = 2 * l.length := by
    intro l
    induction l with
    | nil => rfl
    | cons a r ih => rw [List.flatMap_cons, List.length_append, ih]; show 2 + 2 * r.length = 2 * (r.length + 1); omega
  rw [this, enumL_len]
  omega
section
variable {P : Program} {w : World} {K : PySem.W.Frag} {mg : Str → Option Value} {base : Heap}
abbrev sarrivals : Stmt := top 53
abbrev Narrivals : List PySem.Str := ["layout", "record", "keys", "here", "number", "event", "there", "found", "row", "bounds", "ticks", "order", "way", "delays", "place", "output"]
abbrev Parrivals : List PySem.Str := ["layout", "record", "keys"]
theorem scarrivals : FnScope Narrivals Parrivals (defScope sarrivals) := ⟨rfl, rfl, rfl, by decide +kernel, rfl, by decide +kernel, by decide +kernel⟩
theorem ok_arrivals {Cw C f : Addr} {fd : FuncData} (F : Fun K "arrivals" "arrivals" sarrivals f fd) (B : Bt mg) (TW : WyC K Cw) (c_merged_rows : C8.Cal P w K mg base 9 "merged_rows" (sp_merged_rows 8) []) (c_arrival_bounds : C8.Cal P w K mg base 1 "arrival_bounds" sp_arrival_bounds []) (c_lifted_numbers : C8.Cal P w K mg base 1 "lifted_numbers" sp_lifted_numbers []) (c_ways_of : C8.Cal P w K mg base 7 "ways_of" (sp_ways_of Cw C) []) (m_Way : C8.Mak P w K mg base 1 "Way" Cw (sp_Way_init Cw) []) (m_Player : C8.Mak P w K mg base 1 "Player" C (sp_Player_init C) []) : FnOk P w K mg base CX0 10 f fd Parrivals sp_arrivals := by
  refine F.ok scarrivals (fun vs H Q E h => ?_) (fun cdv A outer s H vs Q E hr h => ?_)
  · obtain ⟨G, v, u, x, L, R, half, rfl, _⟩ := h
    rfl
  · obtain ⟨G, v, u, x, L, R, half, rfl, sG, hv, hL, hu, hK, hR8, hx, k⟩ := h
    have nd := scarrivals.nd
    obtain ⟨la, lxs, rfl, _, _⟩ := Dq.lstE hv
    obtain ⟨pa, xs, rfl, ha, ta⟩ := Dq.lstE hu
    obtain ⟨pb, ys, rfl, hb, tb⟩ := Dq.lstE hx
    obtain rfl := dp_intsE tb
    have hxl : xs.length = R.length := by rw [ta.length, List.length_map]
    refine ⟨_, (pss_cons (ps_setLc (i := 3) (own := [("number", 4), ("event", 5)]) rfl nd rfl rfl (sw_true rfl rfl rfl (by decide +kernel)) (pi_enum (by rfl) B.enumerate (pa_cons (pv 1) pa_nil)) (blkOk_by (own := [("number", 4), ("event", 5)]) (N := Narrivals) (sc := defScope sarrivals) (by decide +kernel)) (fun _ _ _ _ _ => (pg_tupq (n := 2) rfl (pgs_cons (pg_name (i := 4) nd rfl (Or.inl rfl)) (pgs_cons (pg_name (i := 5) nd rfl (Or.inl rfl)) pgs_nil)))) (fun _ _ _ _ _ => (pts_one (pt_cmpR ninLq (pe_ix ixtq (pv 5) pe_int (fun _ _ => rfl)) (pv 2) (by first | exact nomark _ | rfl)))) (fun _ _ _ _ _ => (pv 4)))
    (pss_cons (ps_setLc (i := 6) (own := [("number", 4), ("event", 5)]) rfl nd rfl rfl (sw_true rfl rfl rfl (by decide +kernel)) (pi_enum (by rfl) B.enumerate (pa_cons (pv 1) pa_nil)) (blkOk_by (own := [("number", 4), ("event", 5)]) (N := Narrivals) (sc := defScope sarrivals) (by decide +kernel)) (fun _ _ _ _ _ => (pg_tupq (n := 2) rfl (pgs_cons (pg_name (i := 4) nd rfl (Or.inl rfl)) (pgs_cons (pg_name (i := 5) nd rfl (Or.inl rfl)) pgs_nil)))) (fun _ _ _ _ _ => (pts_one (pt_cmpR inLq (pe_ix ixtq (pv 5) pe_int (fun _ _ => rfl)) (pv 2) (by first | exact nomark _ | rfl)))) (fun _ _ _ _ _ => (pv 4)))
    (pss_cons (ps_set (i := 7) nd rfl (Or.inl rfl) (pe_lst pa_nil))
    (pss_cons (ps_for PassesOwn.never rfl (pi_list (C8.pe_c c_merged_rows hr (by decide) rfl (pa_cons (pv 3) (pa_cons (pv 6) pa_nil)))) (pg_name (i := 8) nd rfl (Or.inl rfl)) (pss_cons (ps_set (i := 9) nd rfl (Or.inl rfl) (C8.pe_c c_arrival_bounds hr (by decide) rfl (pa_cons (pv 1) (pa_cons (pv 2) (pa_cons (pv 8) pa_nil)))))
    (pss_cons (ps_set (i := 10) nd rfl (Or.inl rfl) (C8.pe_c c_lifted_numbers hr (by decide) rfl (pa_cons (pv 9) (pa_cons (pe_op op_rep (pe_lst (pa_cons pe_int pa_nil)) (pe_op op_add (pe_callB lenLq (by rfl) B.len (by decide +kernel) (pa_cons (pv 8) pa_nil)) pe_int)) pa_nil))))
    (pss_one (ps_if (pt_cmpR op_notN (pv 10) pe_non (by first | exact nomark _ | rfl)) (pss_cons (ps_setLc (i := 11) (own := [("number", 4)]) rfl nd rfl rfl (sw_true rfl rfl rfl (by decide +kernel)) (pi_list (pv 8)) (blkOk_by (own := [("number", 4)]) (N := Narrivals) (sc := defScope sarrivals) (by decide +kernel)) (fun _ _ _ _ _ => (pg_name (i := 4) nd rfl (Or.inl rfl))) (fun _ _ _ _ _ => pts_nil) (fun _ _ _ _ _ => (pe_slice slTq (pe_ix ixlq (pv 1) (pv 4) (fun _ _ => rfl)) (po_some pe_int) po_none)))
    (pss_one (ps_for PassesOwn.never rfl (pi_list (C8.pe_c c_ways_of hr (by decide) rfl (pa_cons (pv 0) (pa_cons (pv 11) (pa_cons (C8.pe_mk m_Way hr (by decide) rfl (pa_cons (C8.pe_mk m_Player hr (by decide) rfl (pa_cons (pv 0) pa_nil)) (pa_cons (pv 9) (pa_cons (pv 10) pa_nil)))) pa_nil))))) (pg_name (i := 12) nd rfl (Or.inl rfl)) (pss_cons (ps_set (i := 13) nd rfl (Or.inl rfl) (pe_op op_rep (pe_lst (pa_cons pe_int pa_nil)) (pe_callB lenLq (by rfl) B.len (by decide +kernel) (pa_cons (pv 8) pa_nil))))
    (pss_cons (ps_for PassesOwn.never rfl (pi_enum (by rfl) B.enumerate (pa_cons (pv 8) pa_nil)) (pg_tupq (n := 2) rfl (pgs_cons (pg_name (i := 14) nd rfl (Or.inl rfl)) (pgs_cons (pg_name (i := 4) nd rfl (Or.inl rfl)) pgs_nil))) (pss_one (ps_asg (pe_op op_sub (pe_ix ixlq (fldK (K := K) (pv 12) rfl) (pv 14) (fun _ _ => rfl)) (pe_op op_sub (pe_ix ixtq (pe_ix ixlq (pv 1) (pv 4) (fun _ _ => rfl)) pe_int (fun _ _ => rfl)) (pe_ix ixtq (pe_ix ixlq (pv 1) pe_int (fun _ _ => rfl)) pe_int (fun _ _ => rfl)))) (pg_sub (pv 13) (pv 4) set_list))))
    (pss_one (ps_expr (pe_bm PySem.F.plainAttrs_list PySem.F.slot_list_append PySem.F.type_list_append mt_append (pv 7) (pa_cons (pe_tup (pa_cons (pe_ix ixlq (fldK (K := K) (pv 12) rfl) (pe_un un_neg pe_int) (fun _ _ => rfl)) (pa_cons (pe_lc (own := [("output", 15)]) rfl nd (pi_list (fldK (K := K) (pv 12) rfl)) (blkOk_by (own := [("output", 15)]) (N := Narrivals) (sc := defScope sarrivals) (by decide +kernel)) (fun _ _ _ _ _ => (pg_name (i := 15) nd rfl (Or.inl rfl))) (fun _ _ _ _ _ => (pts_one (pt_cmpR (op_neQ hr.units) (pv 15) (pe_tup pa_nil) (by first | exact nomark _ | rfl)))) (fun _ _ _ _ _ => (pv 15))) (pa_cons (pv 13) pa_nil)))) pa_nil))))))))) pss_nil)))))
    (pss_one (ps_ret (pv 7))))))), ?_⟩
    -- here
    have inH : ∀ {i : Nat} {e : Ev}, R[i]? = some e → half.contains e.key = inHalf half R i := fun {i e} h => by
      have hi := (List.getElem?_eq_some_iff.mp h).1
      have := (ev_get hi).2.1
      unfold inHalf
      rw [this, (List.getElem?_eq_some_iff.mp h).2]
    refine ⟨_, rfl, pa, xs, rfl, sqL (sG _ _ ha), fun D3 hD3 => ?_⟩
    refine lcD (G := G) (G1 := G) (fun i => if (!inHalf half R i) then some (.int (i : Nat)) else none) (walkE (K := K) (a := pa) (xs := xs)) (by omega) (Gr.refl sG) (fun Gi Hi g => g.keep _ _ (sG _ _ ha)) hD3 (fun i y Gi Hi H' Ok No hi g yy ok no => ?_) fun G1 H1 g1 g1' dq1 => ?_
    · obtain ⟨T2, x1, x2, rfl, hT2, rfl, e1, e2⟩ := yy
      cases e1
      obtain ⟨e, ee, dv⟩ := getV_map ta e2
      obtain ⟨pe, rfl, hpe⟩ := ev_parts dv
      have gT : Gr Gi Hi Gi (upd Hi T2 (.tup [.int (i : Nat), .ref pe])) := (Gr.refl g.sub).tmp hT2
      refine ⟨T2, _, rfl, upd_same, rfl, _, _, rfl, _, _, rfl, rfl, rfl, ?_⟩
      refine ⟨_, rfl, pe, _, _, _, rfl, rfl, (g.trans gT).keep _ _ (sG _ _ hpe), atI_nat (j := 1) rfl, _, rfl, pb, _, rfl, (g.trans gT).keep _ _ (sG _ _ hb), rfl, flat_ints half, _, rfl, ?_⟩
      rw [inV_ints, inH ee]
      refine iteB (fun h => ⟨_, rfl, ok _ Gi _ _ gT (.int _) ?_⟩) fun h => no Gi _ gT ?_
      · show (if (!inHalf half R i) = true then _ else _) = _
        rw [if_pos h]
      · show (if (!inHalf half R i) = true then _ else _) = _
        rw [h]; rfl
    rw [hxl, made_filter] at dq1
    -- there
    refine ⟨_, rfl, pa, xs, rfl, sqL (g1.keep _ _ (sG _ _ ha)), fun D6 hD6 => ?_⟩
    refine lcD (G := G) (G1 := G1) (fun i => if inHalf half R i then some (.int (i : Nat)) else none) (walkE (K := K) (a := pa) (xs := xs)) (by omega) g1 (fun Gi Hi g => g.keep _ _ (g1.keep _ _ (sG _ _ ha))) hD6 (fun i y Gi Hi H' Ok No hi g yy ok no => ?_) fun G2 H2 g2 g2' dq2 => ?_
    · obtain ⟨T2, x1, x2, rfl, hT2, rfl, e1, e2⟩ := yy
      cases e1
      obtain ⟨e, ee, dv⟩ := getV_map ta e2
      obtain ⟨pe, rfl, hpe⟩ := ev_parts dv
      have gT : Gr Gi Hi Gi (upd Hi T2 (.tup [.int (i : Nat), .ref pe])) := (Gr.refl g.sub).tmp hT2
      refine ⟨T2, _, rfl, upd_same, rfl, _, _, rfl, _, _, rfl, rfl, rfl, ?_⟩
      refine ⟨_, rfl, pe, _, _, _, rfl, rfl, (g.trans gT).keep _ _ (g1.keep _ _ (sG _ _ hpe)), atI_nat (j := 1) rfl, _, rfl, pb, _, rfl, (g.trans gT).keep _ _ (g1.keep _ _ (sG _ _ hb)), rfl, flat_ints half, _, rfl, ?_⟩
      rw [inV_ints, inH ee]
      refine iteB (fun h => ⟨_, rfl, ok _ Gi _ _ gT (.int _) ?_⟩) fun h => no Gi _ gT ?_
      · show (if inHalf half R i = true then _ else _) = _
        rw [if_pos h]
      · show (if inHalf half R i = true then _ else _) = _
        rw [h]; rfl
    rw [hxl, made_filter] at dq2
    -- found = []
    refine ⟨Nat.zero_le _, fun D7 hD7 => ?_⟩
    have hD7H : H D7 = none := g2.keep.free hD7
    have g3 : Gr G H G2 (upd H2 D7 (.lst [])) := g2.tmp hD7
    have hD73 : (upd H2 D7 (.lst [])) D7 = some (.lst []) := upd_same
    have gD73 : G2 D7 = none := g2.sub.free hD7
    generalize upd H2 D7 (.lst []) = H3 at g3 hD73 ⊢
    have dh : Dq G2 (.ref D3) (natsD (hereOf R half)) := dq1.of g2'.ext
    have dt : Dq G2 (.ref D6) (natsD (thereOf R half)) := dq2
    have hl8 : (hereOf R half).length + (thereOf R half).length ≤ 8 := by
      have := two_len (inHalf half R) (List.range R.length)
      have e2 : (hereOf R half).length + (thereOf R half).length = R.length := by simpa [hereOf, thereOf] using this
      omega
    refine ⟨_, rfl, _, rfl, G2, _, _, hereOf R half, thereOf R half, rfl, g3.sub, dh, dt, hl8, fun y4 G4 H4 g4 d4 => ?_⟩
    obtain ⟨rw4, rs, rfl, hrw, trs⟩ := d4.lstE
    have g04 := g3.trans g4
    have hrl : rs.length = (rowsOf R half).length := by rw [trs.length, List.length_map]; rfl
    have hr256 := rows_len (half := half) hR8
    refine ⟨rw4, rfl, ⟨_, sqL (g4.sub _ _ hrw)⟩, ?_⟩
    have hD74 := g4.keep _ _ hD73
    have gD74 := g4.out hD73 gD73
    have nrD : rw4 ≠ D7 := fun e => by
      rw [e] at hrw
      rw [gD74] at hrw
      cases hrw
    refine for_it (walkL (K := K) (a := rw4) (xs := rs)) (fun i σ H' => rowP G H G4 la pa pb D3 D6 D7 L R half (rowsOf R half) i σ H' ∧ H' rw4 = some (.lst rs))
      ⟨⟨none, none, none, none, none, none, none, none, none, none, G4, [], [], rfl, g04, Same.refl _, hD74, gD74, .nil, rfl, Nat.le_refl _⟩, g4.sub _ _ hrw⟩ (fun i σ H' _ h => h.2) (fun i y σ H5 H6 hi h yy => ?_) fun σ H5 h => ?_
    · obtain ⟨⟨v4, v5, v8, v9, v10, v11, v12, v13, v14, v15, Gi, acc, done, rfl, g, sGb, hD, gD, hacc, hdone, hdl⟩, hrw5⟩ := h
      obtain ⟨rfl, hy⟩ := yy
      obtain ⟨row, er, dvr⟩ := getV_map trs hy
      have er : (rowsOf R half)[i]? = some row := er
      have hrm := List.mem_of_getElem? er
      obtain ⟨hrlen, hrlt⟩ := row_ok hrm
      obtain ⟨r8, zs, rfl, hr8, tz⟩ := Dq.lstE dvr
      obtain rfl := dq_natsE tz
      have hi2 : i < (rowsOf R half).length := (List.getElem?_eq_some_iff.mp er).1
      have edr : (rowsOf R half).drop i = row :: (rowsOf R half).drop (i + 1) := by
        rw [List.drop_eq_getElem_cons hi2, (List.getElem?_eq_some_iff.mp er).2]
      rw [edr] at hdone
      have dvi : Dq Gi (.ref r8) (natsD row) := dvr.of sGb
      refine ⟨_, rfl, _, rfl, _, rfl, Gi, .ref pa, .ref pb, .ref r8, R, half, row, rfl, g.sub, hu.of g.ext, hx.of g.ext, dvi, hrlt, by omega, fun yb G7 H7 g7 db => ?_⟩
      obtain ⟨b9, bs9, rfl, _, _⟩ := Dq.lstE db
      have g07 := g.trans g7
      have hr87 : H7 r8 = some (.lst (row.map fun n => V.int (n : Nat))) := g07.sub _ _ (g7.ext _ _ (sGb _ _ hr8))
      refine ⟨_, rfl, by show 1 ≤ sizeLine; decide, fun z hz => ?_⟩
      have g8 : Gr G7 H7 G7 (upd H7 z (.lst [.int 0])) := (Gr.refl g7.sub).tmp hz
      have nz8 : r8 ≠ z := ne_of_none hr87 hz
      refine ⟨_, rfl, r8, _, rfl, by rw [upd_ne nz8]; exact hr87, _, _, rfl, rfl, z, _, _, rfl, rfl, upd_same, by rw [List.length_map]; omega, by rw [List.length_map]; omega, small (by simp only [List.length_map, List.length_singleton]; omega), fun p hp => ?_⟩
      have ezs : (List.replicate ((((row.map fun n => V.int ((n : Nat) : Int)).length : Nat) : Int) + 2).toNat [V.int 0]).flatten = (List.replicate (row.length + 2) (0 : Int)).map V.int := by
        rw [rep_flat, List.map_replicate, List.length_map]
        congr 1
      rw [ezs]
      have g9 : Gr G7 H7 (upd G7 p (.lst ((List.replicate (row.length + 2) (0 : Int)).map V.int))) (upd (upd H7 z (.lst [.int 0])) p (.lst ((List.replicate (row.length + 2) (0 : Int)).map V.int))) := g8.fr hp
      have dz9 : Dq (upd G7 p (.lst ((List.replicate (row.length + 2) (0 : Int)).map V.int))) (.ref p) (intsD (List.replicate (row.length + 2) (0 : Int))) := newL (g8.sub.free hp) dp_ints
      have db9 : Dq (upd G7 p (.lst ((List.replicate (row.length + 2) (0 : Int)).map V.int))) (.ref b9) (.list ((arrBounds R half row).map bdD)) := db.of g9.ext
      have g09 := g07.trans g9
      generalize upd G7 p (.lst ((List.replicate (row.length + 2) (0 : Int)).map V.int)) = G9 at g9 dz9 db9 g09
      generalize upd (upd H7 z (.lst [.int 0])) p (.lst ((List.replicate (row.length + 2) (0 : Int)).map V.int)) = H9 at g9 g09 ⊢
      have hbi : BdIn (row.length + 2) (arrBounds R half row) := arr_in R half row
      refine ⟨G9, .ref b9, .ref p, arrBounds R half row, List.replicate (row.length + 2) 0, rfl, g9.sub, db9, dz9, by rw [List.length_replicate]; exact hbi, by rw [List.length_replicate]; omega, fun tv G10 H10 g10 dtv => ?_⟩
      have g010 := g09.trans g10
      have e510 : Same Gi G10 := (g7.ext.trans g9.ext).trans g10.ext
      have g510 : Gr Gi H6 G10 H10 := (g7.trans g9).trans g10
      have hrw10 : H10 rw4 = some (.lst rs) := g510.keep _ _ hrw5
      have hD10 : H10 D7 = some (.lst acc) := g510.keep _ _ hD
      have gD10 : G10 D7 = none := g510.out hD gD
      have hacc10 : DqAll G10 acc (done.map arrD) := hacc.of e510
      have dvr10 : Dq G10 (.ref r8) (natsD row) := dvi.of e510
      have db10 := db9.of g10.ext
      have sGb10 : Same G4 G10 := sGb.trans e510
      have hra : rowArr L R half row = (match mLifted (arrBounds R half row) (List.replicate (row.length + 2) 0) with
        | none => []
        | some t => (mWays L (orderOf R row) ⟨pl0, arrBounds R half row, t, [], []⟩).map (arrOf R row)) := rfl
      clear g510 e510 g10 g9 dz9 db9 g09 g8 ezs g7 g07 hr87 nz8 hz hp db
      cases hlift : mLifted (arrBounds R half row) (List.replicate (row.length + 2) 0) with
      | none =>
        rw [hlift] at dtv hra
        obtain rfl := dtv.nonE
        refine ⟨_, rfl, rfl, false, rfl, ?_⟩
        refine ⟨⟨v4, v5, _, _, _, v11, v12, v13, v14, v15, G10, acc, done, rfl, g010, sGb10, hD10, gD10, hacc10, ?_, by omega⟩, hrw10⟩
        rw [← hdone]
        show done ++ _ = done ++ (rowArr L R half row ++ _)
        rw [hra]
        rfl
      | some t =>
        rw [hlift] at dtv hra
        dsimp only at hra
        obtain ⟨t10, ts, rfl, ht10, tts⟩ := Dq.lstE (show Dq G10 tv (intsD t) from dtv)
        obtain rfl := dp_intsE tts
        have dt10 : Dq G10 (.ref t10) (intsD t) := dtv
        have htl : t.length = row.length + 2 := by rw [lifted_len hlift, List.length_replicate]
        refine ⟨_, rfl, rfl, true, rfl, ?_⟩
        -- order
        refine ⟨_, rfl, r8, rfl, ⟨_, sqL (g010.sub _ _ (sGb10 _ _ hr8))⟩, fun D11 hD11 => ?_⟩
        refine lcD (G := G) (G1 := G10) (fun j => (row[j]?).map fun n => stpD (R.getD n ⟨0, 0, false⟩).stp) (walkL (K := K) (a := r8) (xs := row.map fun n => V.int (n : Nat))) (by rw [List.length_map]; omega) g010 (fun Gj Hj gj => gj.keep _ _ (g010.sub _ _ (sGb10 _ _ hr8))) hD11 (fun j y Gj Hj H' Ok No hj gj yy ok no => ?_) fun G11 H11 g11 g1011 dq11 => ?_
        · obtain ⟨rfl, hy2⟩ := yy
          rw [List.getElem?_map] at hy2
          cases en : row[j]? with
          | none => rw [en] at hy2; cases hy2
          | some n =>
            rw [en] at hy2
            obtain rfl := (Option.some.inj hy2).symm
            have hnR := hrlt n (List.mem_of_getElem? en)
            obtain ⟨eR, _, _⟩ := ev_get hnR
            obtain ⟨pe, hxe, hpe⟩ := ev_at ta eR
            have pkj : ∀ {b : Addr} {o : HO}, G b = some o → H' b = some o := fun hb => (g010.trans gj).keep _ _ (sG _ _ hb)
            refine ⟨rfl, _, rfl, _, rfl, pa, xs, _, V.ref pe, rfl, rfl, pkj ha, atI_nat hxe, _, rfl, pe, _, rfl, pkj hpe, (by show ¬ (HT.sIx 3 0 (some 1) = 0 ∧ HT.sIx 3 3 none = 3); decide +kernel), fun z2 hz2 => ?_⟩
            refine ok _ (upd Gj z2 (.tup [.int (R[n]'hnR).key, .str (wayS (R[n]'hnR).dn)])) _ (stpD (R[n]'hnR).stp) ((Gr.refl gj.sub).fr hz2) (newT (gj.sub.free hz2) (.two (.int _) (.str _))) ?_
            show (row[j]?).map _ = _
            rw [en]
            show some (stpD (R.getD n ⟨0, 0, false⟩).stp) = _
            rw [List.getD_eq_getElem?_getD, eR]
            rfl
        rw [List.length_map, made_map] at dq11
        have eord : (row.map fun n => stpD (R.getD n ⟨0, 0, false⟩).stp) = (orderOf R row).map stpD := by
          unfold orderOf
          rw [List.map_map]
          rfl
        rw [eord] at dq11
        obtain ⟨o11, os11, e11, _, _⟩ := dq11.lstE
        cases e11
        have hSlen : (orderOf R row).length = row.length := by unfold orderOf; rw [List.length_map]
        have hSk : ∀ s ∈ orderOf R row, 0 ≤ s.1 ∧ s.1 < mWide L := fun s hs => by
          obtain ⟨n, hn, e⟩ := List.mem_map.mp hs
          have hnR := hrlt n hn
          rw [← e, List.getD_eq_getElem?_getD, List.getElem?_eq_getElem hnR]
          exact hK _ (List.getElem_mem hnR)
        have e1011 := g1011.ext
        have hrw11 := g1011.keep _ _ hrw10
        have hD11' := g1011.keep _ _ hD10
        have gD11 := g1011.out hD10 gD10
        have hacc11 := hacc10.of e1011
        have dvr11 := dvr10.of e1011
        have db11 := db10.of e1011
        have dt11 := dt10.of e1011
        have sGb11 := sGb10.trans e1011
        clear dtv dt10 db10 dvr10 hacc10 gD10 hD10 hrw10
        -- Player(layout)
        refine ⟨_, rfl, _, rfl, _, rfl, fun xp dxp nxp ndxp nexp => ?_⟩
        have s0 : Same H11 (upd (upd H11 dxp (.own xp)) xp (.ins C dxp [])) := fun b o e => by
          rw [upd_ne (ne_of_none e nxp), upd_ne (ne_of_none e ndxp)]; exact e
        refine ⟨G11, xp, dxp, la, L, rfl, g11.sub.trans s0, upd_same, g11.sub.free nxp, hv.of g11.ext, fun H12 dl db kp hdl hdb hP => ⟨rfl, ?_⟩⟩
        have s12 : Same H11 H12 := fun b o e => kp b o (ne_of_none e nxp) (s0 b o e)
        have ndl : H11 dl = none := s0.free hdl
        have ndb : H11 db = none := s0.free hdb
        have g12 : Gr G11 H11 G11 H12 := (Gr.refl g11.sub).same s12
        -- Way(..)
        refine ⟨_, rfl, _, rfl, fun xw dxw nxw ndxw nexw => ?_⟩
        have s5 : Same H12 (upd (upd H12 dxw (.own xw)) xw (.ins Cw dxw [])) := fun q o e => by
          rw [upd_ne (ne_of_none e nxw), upd_ne (ne_of_none e ndxw)]; exact e
        have gxw : G11 xw = none := g12.sub.free nxw
        refine ⟨G11, xw, dxw, xp, b9, t10, rfl, g12.sub.trans s5, upd_same, gxw, fun G13 H13 cc rr s6 e6 kp6 n6 hx6 dcc drr => ⟨rfl, ?_⟩⟩
        have sH : Same H12 H13 := fun q o e => kp6 q o (ne_of_none e nxw) (s5 q o e)
        have g13 : Gr G11 H12 G13 H13 := ⟨s6, e6, sH, fun a h1 h0 => s5.free (n6 a h1 h0)⟩
        have gx13 : G13 xw = none := by
          cases q : G13 xw with
          | none => rfl
          | some u =>
            have := n6 xw (by rw [q]; exact nofun) gxw
            rw [upd_same] at this
            cases this
        have hP13 := hP.gr g13
        have nwp : xw ≠ xp := fun e => by
          obtain ⟨_, hq⟩ := hP.some_of (.inl rfl)
          rw [← e, nxw] at hq
          cases hq
        have g1113 : Gr G11 H11 G13 H13 := g12.trans g13
        have g013 := g11.trans g1113
        have hW13 : WyAt Cw C G13 H13 ⟨xw, xp, dl, db⟩ L ⟨pl0, arrBounds R half row, t, [], []⟩ := ⟨⟨dxw, b9, t10, cc, rr, hx6, db11.of e6, dt11.of e6, dcc, drr⟩, gx13, hP13, nwp⟩
        have own11 : ∀ b, (Own.mk xw xp dl db).has b → H11 b = none := by
          rintro b (rfl | rfl | rfl | rfl)
          · exact s12.free nxw
          · exact nxp
          · exact ndl
          · exact ndb
        have hbl : (arrBounds R half row).length ≤ 400 := by
          have := arr_len R half row
          omega
        refine ⟨G13, .ref la, .ref D11, orderOf R row, ⟨xw, xp, dl, db⟩, L, ⟨pl0, arrBounds R half row, t, [], []⟩, rfl, g013.sub, dq11.of e6, by omega, hW13, hL, ⟨(fun _ h => by (cases h)), Nat.le_refl _, by show t.length ≤ 100; omega, by show BdIn t.length _; rw [htl]; exact hbi, hbl, Nat.le_refl _, Nat.le_refl _⟩, by show (orderOf R row).length ≤ t.length; omega, hSk, fun q os G14 H14 g14 hq0 gq0 hq hol hA => ?_⟩
        have g1114 : Gr G11 H11 G14 H14 := Gr.stepP g1113 g14 own11
        have g014 := g11.trans g1114
        have e1114 := g1114.ext
        have hD14 := g1114.keep _ _ hD11'
        have gD14 := g1114.out hD11' gD11
        have hrw14 := g1114.keep _ _ hrw11
        have hacc14 := hacc11.of e1114
        have dvr14 := dvr11.of e1114
        have sGb14 := sGb11.trans e1114
        have nqD : q ≠ D7 := fun e => by
          have := g1113.keep _ _ hD11'
          rw [← e, hq0] at this
          cases this
        have nqr : q ≠ rw4 := fun e => by
          have := g1113.keep _ _ hrw11
          rw [← e, hq0] at this
          cases this
        have hwl := hA.length
        have hWO : ∀ w' ∈ mWays L (orderOf R row) ⟨pl0, arrBounds R half row, t, [], []⟩, WOut L (row.length + 2) w' := waysGo_out hL hSk (fun w' hw' => by
          rw [List.mem_singleton.mp hw']
          exact ⟨fun _ h => by (cases h), fun _ h => by (cases h), htl⟩)
        have hWl : ∀ w' ∈ mWays L (orderOf R row) ⟨pl0, arrBounds R half row, t, [], []⟩, w'.res.length = 0 + (orderOf R row).length := waysGo_len (fun w' hw' => by
          rw [List.mem_singleton.mp hw']
          rfl)
        generalize mWays L (orderOf R row) ⟨pl0, arrBounds R half row, t, [], []⟩ = ws at hra hA hwl hWO hWl
        clear hW13 hP13 g13 g14 sH s5 kp6 n6 s12 kp hP g12 s0 own11 g013 g1113 hx6 dcc drr
        refine ⟨q, rfl, ⟨_, sqL hq⟩, ?_⟩
        refine for_it (walkL (K := K) (a := q) (xs := refsO os)) (fun m σ H' => wayP Cw C G H G14 la pa pb D3 D6 D7 r8 b9 t10 D11 q L R half row os ws done m σ H' ∧ H' rw4 = some (.lst rs))
          ⟨⟨v4, v5, v12, v13, v14, v15, G14, acc, done, rfl, g014, Same.refl _, hD14, gD14, hacc14, hq, hA, rfl, Nat.le_refl _⟩, hrw14⟩ (fun m σ H' _ h => ?_) (fun m y σ H15 H16 hm h yy => ?_) fun σ H15 h => ?_
        · obtain ⟨⟨_, _, _, _, _, _, _, _, _, _, _, _, _, _, _, h, _⟩, _⟩ := h
          exact h
        · obtain ⟨⟨u4, u5, u12, u13, u14, u15, Gm, acc2, done2, rfl, gm, sm, hDm, gDm, haccm, hqm, hAm, hdm, hdlm⟩, hrwm⟩ := h
          obtain ⟨rfl, hy2⟩ := yy
          have hmo : m < os.length := by simpa [refsO] using hm
          have eom : os[m]? = some (os[m]'hmo) := List.getElem?_eq_getElem hmo
          obtain rfl : y = V.ref (os[m]'hmo).wy := by
            have : (refsO os)[m]? = some (V.ref (os[m]'hmo).wy) := by simp [refsO, hmo]
            exact Option.some.inj (hy2.symm.trans this)
          obtain ⟨wm, ewm, hwm⟩ := hAm.at eom
          have hmw : m < ws.length := by omega
          have edw : ws.drop m = wm :: ws.drop (m + 1) := by
            rw [List.drop_eq_getElem_cons hmw, (List.getElem?_eq_some_iff.mp ewm).2]
          rw [edw] at hdm
          have hwo := hWO wm (List.mem_of_getElem? ewm)
          have hwlen := hWl wm (List.mem_of_getElem? ewm)
          generalize os[m]'hmo = om at hwm ⊢
          obtain ⟨dxo, bo, to, co, ro, hob, _, hto, _, hro⟩ := id hwm.ob
          obtain ⟨to', tks, e, htk, ttk⟩ := Dq.lstE hto
          cases e
          obtain rfl := dp_intsE ttk
          obtain ⟨ro', ros, e, hrs, trs2⟩ := hro.lstE
          cases e
          have htl2 := hwo.tl
          have dvrm : Dq Gm (.ref r8) (natsD row) := dvr14.of sm
          obtain ⟨r8', zr, e, hr8m, tzr⟩ := Dq.lstE dvrm
          cases e
          obtain rfl := dq_natsE tzr
          have sGm : Same G Gm := gm.ext
          have hrow8 : H16 r8 = some (.lst (row.map fun n => V.int (n : Nat))) := gm.sub _ _ hr8m
          -- delays = [0] * len(row)
          refine ⟨by show 1 ≤ sizeLine; decide, fun z hz => ?_⟩
          have gz : Gr Gm H16 Gm (upd H16 z (.lst [.int 0])) := (Gr.refl gm.sub).tmp hz
          have nz8 : r8 ≠ z := ne_of_none hrow8 hz
          refine ⟨_, rfl, r8, _, rfl, by rw [upd_ne nz8]; exact hrow8, z, _, _, rfl, rfl, upd_same, by rw [List.length_map]; omega, by rw [List.length_map]; omega, small (by simp only [List.length_map, List.length_singleton]; omega), fun D13 hD13 => ?_⟩
          have ezs : (List.replicate (((row.map fun n => V.int ((n : Nat) : Int)).length : Nat) : Int).toNat [V.int 0]).flatten = (List.replicate row.length (0 : Int)).map V.int := by
            rw [rep_flat, List.map_replicate, List.length_map]
            congr 1
          rw [ezs]
          have hD13H : H16 D13 = none := gz.keep.free hD13
          have gd : Gr Gm H16 Gm (upd (upd H16 z (.lst [.int 0])) D13 (.lst ((List.replicate row.length (0 : Int)).map V.int))) := gz.tmp hD13
          have hDd : (upd (upd H16 z (.lst [.int 0])) D13 (.lst ((List.replicate row.length (0 : Int)).map V.int))) D13 = some (.lst ((List.replicate row.length (0 : Int)).map V.int)) := upd_same
          have gD13 : Gm D13 = none := gz.sub.free hD13
          generalize upd (upd H16 z (.lst [.int 0])) D13 (.lst ((List.replicate row.length (0 : Int)).map V.int)) = Hd at gd hDd ⊢
          have rlen : (row.map fun n => V.int ((n : Nat) : Int)).length = row.length := List.length_map _
          have row_at : ∀ {i : Nat}, i < row.length → (row.map fun n => V.int ((n : Nat) : Int))[i]? = some (.int ((row.getD i 0 : Nat) : Int)) := fun {i} h => by simp [h]
          refine ⟨_, rfl, r8, _, rfl, sqL (gd.keep _ _ hrow8), ?_⟩
          refine for_it (walkE (K := K) (a := r8) (xs := row.map fun n => V.int ((n : Nat) : Int))) (fun p σ H' => ∃ w4 w14 ds, σ = [some (.ref la), some (.ref pa), some (.ref pb), some (.ref D3), w4, u5, some (.ref D6), some (.ref D7), some (.ref r8), some (.ref b9), some (.ref t10), some (.ref D11), some (.ref om.wy), some (.ref D13), w14, u15] ∧ Gr Gm H16 Gm H' ∧ H' D13 = some (.lst (ds.map V.int)) ∧ ds.length = row.length ∧ delaysGo R wm.ticks ds (enumL p (row.drop p)) = delaysOf R row wm.ticks)
            ⟨u4, u14, List.replicate row.length 0, rfl, gd, hDd, List.length_replicate, rfl⟩ (fun p σ H' _ h => ?_) (fun p y σ H17 H18 hp h yy => ?_) fun σ H17 h => ?_
          · obtain ⟨_, _, _, _, g, _⟩ := h
            exact g.keep _ _ hrow8
          · obtain ⟨w4, w14, ds, rfl, gp, hDp, hdsl, hdgo⟩ := h
            obtain ⟨T2, x1, y1, rfl, hT2, rfl, e1, e2⟩ := yy
            cases e1
            have hp2 : p < row.length := by rw [rlen] at hp; exact hp
            have e2 := e2.symm.trans (row_at hp2)
            cases e2
            have hnR : row.getD p 0 < R.length := by
              have : row.getD p 0 = row[p]'hp2 := by simp [hp2]
              rw [this]
              exact hrlt _ (List.getElem_mem _)
            have edr2 : row.drop p = row.getD p 0 :: row.drop (p + 1) := by
              rw [List.drop_eq_getElem_cons hp2]
              simp [hp2]
            generalize row.getD p 0 = num at hnR edr2 ⊢
            rw [edr2] at hdgo
            obtain ⟨eR, _, et⟩ := ev_get hnR
            obtain ⟨pe, hxe, hpe⟩ := ev_at ta eR
            have h0R : 0 < R.length := by omega
            obtain ⟨er0, _, et0⟩ := ev_get h0R
            obtain ⟨p0, hx0, hp0⟩ := ev_at ta er0
            have nDT : D13 ≠ T2 := ne_of_none hDp hT2
            have gT : Gr Gm H16 Gm (upd H17 T2 (.tup [.int (p : Nat), .int (num : Nat)])) := gp.tmp hT2
            have hDT : (upd H17 T2 (.tup [.int (p : Nat), .int (num : Nat)])) D13 = some (.lst (ds.map V.int)) := by rw [upd_ne nDT]; exact hDp
            have hTT : (upd H17 T2 (.tup [.int (p : Nat), .int (num : Nat)])) T2 = some (.tup [.int (p : Nat), .int (num : Nat)]) := upd_same
            generalize upd H17 T2 (.tup [.int (p : Nat), .int (num : Nat)]) = HT at gT hDT hTT ⊢
            have pk : ∀ {b : Addr} {o : HO}, G b = some o → HT b = some o := fun hb => gT.keep _ _ (gm.keep _ _ (sG _ _ hb))
            refine ⟨T2, _, rfl, hTT, rfl, _, _, rfl, _, _, rfl, rfl, ?_⟩
            refine ⟨_, rfl, om.wy, Cw, dxo, _, _, rfl, gT.keep _ _ hob, TW.cl, TW.nT, lw_ticks, _, rfl, to, _, _, _, rfl, rfl, gT.sub _ _ htk, atI_nat (int_at (by rw [htl2]; omega)), ?_⟩
            refine ⟨_, rfl, _, rfl, pa, xs, _, V.ref pe, rfl, rfl, pk ha, atI_nat hxe, pe, _, _, _, rfl, rfl, pk hpe, atI_nat (j := 0) rfl, ?_⟩
            refine ⟨_, rfl, pa, xs, _, V.ref p0, rfl, rfl, pk ha, atI_nat (j := 0) hx0, p0, _, _, _, rfl, rfl, pk hp0, atI_nat (j := 0) rfl, _, _, rfl, rfl, _, _, rfl, rfl, ?_⟩
            refine ⟨_, rfl, _, rfl, D13, _, _, num, rfl, rfl, hDT, ixN_nat (by rw [List.length_map]; omega), ?_⟩
            refine ⟨some (.int (num : Nat)), some (.int (p : Nat)), ds.set num (wm.ticks.getD p 0 - mOff R num), rfl, gT.set hD13H gD13, ?_, by rw [List.length_set]; exact hdsl, hdgo⟩
            rw [upd_same, List.map_set]
            have eoff : (R[num]'hnR).tick - (R[0]'h0R).tick = mOff R num := by unfold mOff; rw [et, et0]
            rw [← eoff]
          · obtain ⟨w4, w14, ds, rfl, gp, hDp, hdsl, hdgo⟩ := h
            have e3 : row.drop (row.map fun n => V.int ((n : Nat) : Int)).length = [] := List.drop_eq_nil_of_le (by rw [rlen]; exact Nat.le_refl _)
            rw [e3] at hdgo
            have hds : ds = delaysOf R row wm.ticks := hdgo
            subst hds
            obtain ⟨tw, etw⟩ := last_of (n := row.length + 1) (by rw [htl2])
            have hrl2 : ros.length = wm.res.length := by rw [trs2.length, List.length_map]
            refine ⟨_, rfl, .inl ⟨rfl, acc2, sqL (gp.keep _ _ hDm)⟩, ?_⟩
            refine ⟨_, rfl, om.wy, Cw, dxo, _, _, rfl, gp.keep _ _ hob, TW.cl, TW.nT, lw_ticks, _, rfl, to, _, _, V.int (wm.ticks.getD (row.length + 1) 0), rfl, rfl, gp.sub _ _ htk, ?_, ?_⟩
            · rw [etw, List.map_append]
              have : (tw ++ [wm.ticks.getD (row.length + 1) 0]).getD (row.length + 1) 0 = wm.ticks.getD (row.length + 1) 0 := by rw [← etw]
              rw [this]
              exact atI_last _ _
            refine ⟨_, rfl, om.wy, Cw, dxo, _, _, rfl, gp.keep _ _ hob, TW.cl, TW.nR, lw_result, ro, rfl, ⟨_, sqL (gp.sub _ _ hrs)⟩, fun D15 hD15 => ?_⟩
            refine lcD (G := Gm) (G1 := Gm) (fun j => (wm.res[j]?).bind fun o => if o.isSome then some (outD o) else none) (walkL (K := K) (a := ro) (xs := ros)) ?_ (Gr.refl gp.sub) (fun Gi Hi g => g.keep _ _ (gp.sub _ _ hrs)) hD15 (fun j x Gi Hi H' Ok No hj g y ok no => ?_) fun G19 H19 g19 g19' dq => ?_
            · omega
            · obtain ⟨rfl, hy⟩ := y
              obtain ⟨o, eo, dv⟩ := getV_map trs2 hy
              have ook : OutOk o := hwo.out o (List.mem_of_getElem? eo)
              have dvH : Dq H' x (outD o) := dv.of (gp.sub.trans g.keep)
              refine ⟨rfl, _, rfl, Nat.zero_le _, fun z hz => ?_⟩
              refine ⟨1, outD o, .tuple [], dvH.of (same_new hz), tp upd_same .nil, by decide, fineOut ook, (fun y hy => by cases hy), fun c hc => ⟨c, rfl, ?_⟩⟩
              have gz : Gr Gi H' Gi (upd H' z (.tup [])) := (Gr.refl g.sub).tmp hz
              have efull : ((wm.res[j]?).bind fun o => if o.isSome then some (outD o) else none) = if o.isSome then some (outD o) else none := by rw [eo]; rfl
              refine iteB (fun h => ⟨_, rfl, ok _ Gi _ (outD o) gz (dv.of g.ext) ?_⟩) fun h => no Gi _ gz ?_
              · show ((wm.res[j]?).bind _) = _
                rw [efull]
                have : ¬ o = none := fun e => (hc.mp h) (out_eq.mpr e)
                cases o with
                | none => exact absurd rfl this
                | some q => rfl
              · show ((wm.res[j]?).bind _) = _
                rw [efull]
                have : o = none := by
                  by_cases e : o = none
                  · exact e
                  · have := hc.mpr (fun z => e (out_eq.mp z))
                    rw [h] at this
                    cases this
                rw [this]
                rfl
            · rw [hrl2, made_outs] at dq
              have hD19 : H19 D13 = some (.lst ((delaysOf R row wm.ticks).map V.int)) := g19.keep _ _ hDp
              have gD19 : G19 D13 = none := g19.out hDp gD13
              have g0 : Gr Gm H16 G19 H19 := gp.trans g19
              have gf : Gr Gm H16 (upd G19 D13 (.lst ((delaysOf R row wm.ticks).map V.int))) H19 := g0.freeze hD13H hD19
              have sf : Same G19 (upd G19 D13 (.lst ((delaysOf R row wm.ticks).map V.int))) := same_upd gD19
              refine ⟨_, rfl, by show 3 ≤ sizeLine; decide, fun z3 hz3 => ?_⟩
              have gzf : Gr Gm H16 (upd (upd G19 D13 (.lst ((delaysOf R row wm.ticks).map V.int))) z3 (.tup [.int (wm.ticks.getD (row.length + 1) 0), .ref D15, .ref D13])) (upd H19 z3 (.tup [.int (wm.ticks.getD (row.length + 1) 0), .ref D15, .ref D13])) := gf.fr hz3
              have gz3n : (upd G19 D13 (.lst ((delaysOf R row wm.ticks).map V.int))) z3 = none := gf.sub.free hz3
              have darr : Dq (upd (upd G19 D13 (.lst ((delaysOf R row wm.ticks).map V.int))) z3 (.tup [.int (wm.ticks.getD (row.length + 1) 0), .ref D15, .ref D13])) (.ref z3) (arrD (arrOf R row wm)) := newT gz3n (.three (.int _) (dq.of sf) (ls upd_same dp_ints))
              generalize upd (upd G19 D13 (.lst ((delaysOf R row wm.ticks).map V.int))) z3 (.tup [.int (wm.ticks.getD (row.length + 1) 0), .ref D15, .ref D13]) = Gz at gzf darr
              generalize upd H19 z3 (.tup [.int (wm.ticks.getD (row.length + 1) 0), .ref D15, .ref D13]) = Hz at gzf ⊢
              have hDz := gzf.keep _ _ hDm
              have gDz := gzf.out hDm gDm
              have hal : acc2.length = done2.length := by rw [haccm.length, List.length_map]
              refine ⟨D7, acc2, .ref z3, rfl, rfl, hDz, small_lt (by omega), ?_⟩
              refine ⟨⟨w4, u5, _, _, w14, u15, Gz, acc2 ++ [.ref z3], done2 ++ [arrOf R row wm], rfl, (gm.trans gzf).set hD7H gDz, sm.trans gzf.ext, upd_same, gDz, ?_, ?_, (hAm.gr gzf).upd_list hDz, ?_, by simp; omega⟩, ?_⟩
              · rw [List.map_append]
                exact (haccm.of gzf.ext).append (.one darr)
              · rw [upd_ne nqD]; exact gzf.keep _ _ hqm
              · rw [List.append_assoc]
                exact hdm
              · rw [upd_ne nrD]; exact gzf.keep _ _ hrwm
        · obtain ⟨⟨u4, u5, u12, u13, u14, u15, Gm, acc2, done2, rfl, gm, sm, hDm, gDm, haccm, hqm, hAm, hdm, hdlm⟩, hrwm⟩ := h
          have e1 : ws.drop (refsO os).length = [] := List.drop_eq_nil_of_le (by simp [refsO]; omega)
          rw [e1] at hdm
          have hdm2 : done2 = done ++ ws.map (arrOf R row) := by rw [← hdm]; simp
          refine ⟨⟨u4, u5, _, _, _, _, u12, u13, u14, u15, Gm, acc2, done2, rfl, gm, sGb14.trans sm, hDm, gDm, haccm, ?_, ?_⟩, hrwm⟩
          · rw [← hdone, hdm2]
            show _ = done ++ (rowArr L R half row ++ _)
            rw [hra, List.append_assoc]
            rfl
          · simp only [refsO, List.length_map] at hdlm
            omega
    · obtain ⟨⟨v4, v5, v8, v9, v10, v11, v12, v13, v14, v15, Gi, acc, done, rfl, g, _, hD, gD, hacc, hdone, hdl⟩, _⟩ := h
      have e1 : (rowsOf R half).drop rs.length = [] := List.drop_eq_nil_of_le (by omega)
      rw [e1] at hdone
      have hdone2 : done = mArrivals L R half := by rw [← hdone]; simp
      subst hdone2
      exact ⟨_, rfl, k _ (upd Gi D7 (.lst acc)) _ (g.freeze hD7H hD) (ls upd_same (hacc.of (same_upd gD)))⟩
end
end HT7
end partW17
section partW18
set_option Elab.async false
set_option linter.all false
set_option maxRecDepth 100000
namespace HT7
open PySem PySem.Spec PyProof.Rows L2 HT5 HT6 HT4
open PySem.W (alike alikeAll dataLt AllAlike)
theorem hu65_of {k : Nat} {A : Around} (hr : Room k A) : A.units + 65 < cLine := by have := hr.un; omega
section
variable {J : It} {n : Nat} {G : Hp → Prop} {Y : Nat → Hp → V → Hp → Prop}
/-- a set comprehension over a walk -/
theorem sc_it {K : PySem.W.Frag} {wo : World} (w : Walk J n G Y) {g : TG} {tt : TT} {te : TE} {vs : List Nat} {σ : L2.St} {H1 : Hp} {D : Addr} {Qd : Hp → Prop} (Pv : Nat → Hp → Prop) (h0 : Pv 0 (upd H1 D (SetNO wo D []))) (hG : ∀ i H, i ≤ n → Pv i H → G H)
    (hs : ∀ i x H H', i < n → Pv i H → Y i H x H' → g x (wipe σ vs) H' fun σ2 H2 => wipe σ2 vs = wipe σ vs ∧ tt σ2 H2 fun b H3 =>
      if b = true then te σ2 H3 fun y H4 => ∃ (p : AK) (L : List AK), y = .ref p.1 ∧ KeyH K H4 p ∧ (∀ q ∈ L, KeyH K H4 q) ∧ H4 D = some (SetNO wo D L) ∧ L.length + 1 < 64 ∧ ∀ L', (p.2 ∈ L.map (·.2) → L' = L) → (p.2 ∉ L.map (·.2) → L'.Perm (p :: L)) → Pv (i + 1) (upd H4 D (SetNO wo D L')) else Pv (i + 1) H3) (hd : ∀ H, Pv n H → Qd H) :
    ∃ W : Nat → Nat → Hp → Prop, (∃ m, W 0 m (upd H1 D (SetNO wo D []))) ∧ ∀ i m H, W i m H →
      (J.stop i H ∧ Qd H) ∨ (J.go i H ∧ ∃ Nx : Hp → Prop, (∀ H', Nx H' → ∃ m', m' < m ∧ W (i + 1) m' H') ∧ ∀ x H', J.yld i H x H' → g x (wipe σ vs) H' fun σ2 H2 => wipe σ2 vs = wipe σ vs ∧ tt σ2 H2 fun b H3 =>
        if b = true then te σ2 H3 fun y H4 => ∃ (p : AK) (L : List AK), y = .ref p.1 ∧ KeyH K H4 p ∧ (∀ q ∈ L, KeyH K H4 q) ∧ H4 D = some (SetNO wo D L) ∧ L.length + 1 < 64 ∧ ∀ L', (p.2 ∈ L.map (·.2) → L' = L) → (p.2 ∉ L.map (·.2) → L'.Perm (p :: L)) → Nx (upd H4 D (SetNO wo D L')) else Nx H3) := by
  refine ⟨fun i m H => m = n - i ∧ i ≤ n ∧ Pv i H, ⟨n, by simp, Nat.zero_le _, h0⟩, ?_⟩
  rintro i m H ⟨rfl, hi, p⟩
  have q := hG i H hi p
  by_cases hlt : i < n
  · refine .inr ⟨w.goes i H hlt q, Pv (i + 1), fun H' p' => ⟨n - (i + 1), by omega, rfl, hlt, p'⟩, fun x H' y => hs i x H H' hlt p (w.yields i H x H' hlt q y)⟩
  · have e : i = n := by omega
    subst e
    exact .inl ⟨w.stops H q, hd H p⟩
end
/-! outputs as a key -/
def outK : Out → NestedKey
  | none => .tup []
  | some (p, c) => .tup [.text (if p then "press" else "release"), .text c]
def outsK (l : List Out) : NestedKey := .tup (l.map outK)
def outsD (l : List Out) : PyData := .list (l.map outD)
theorem outK_data (o : Out) : (outK o).data = outD o := by
  cases o with
  | none => rfl
  | some q => obtain ⟨p, c⟩ := q; rfl
theorem outsK_data (l : List Out) : (outsK l).data = .tuple (l.map outD) := by
  unfold outsK
  show PyData.tuple (NestedKey.datas (l.map outK)) = _
  congr 1
  induction l with
  | nil => rfl
  | cons o r ih =>
    show (outK o).data :: NestedKey.datas (r.map outK) = _
    rw [outK_data, ih]
    rfl
theorem outK_inj {o o' : Out} (h : outK o = outK o') : o = o' := by
  cases o with
  | none =>
    cases o' with
    | none => rfl
    | some q => obtain ⟨p, c⟩ := q; cases h
  | some q =>
    obtain ⟨p, c⟩ := q
    cases o' with
    | none => cases h
    | some q' =>
      obtain ⟨p', c'⟩ := q'
      have h' : NestedKey.tup [.text (if p then "press" else "release"), .text c] = NestedKey.tup [.text (if p' then "press" else "release"), .text c'] := h
      injection h' with h'
      injection h' with h1 h2
      injection h2 with h2 _
      injection h1 with h1
      injection h2 with h2
      subst h2
      have : p = p' := by
        cases p <;> cases p' <;> first | rfl | exact absurd h1 (by decide +kernel)
      rw [this]
theorem outsK_inj {l l' : List Out} (h : outsK l = outsK l') : l = l' := by
  have h' : l.map outK = l'.map outK := NestedKey.tup.inj h
  exact List.map_inj_right (fun _ _ e => outK_inj e) |>.mp h'
theorem outsK_depth (l : List Out) : (outsK l).depth ≤ 8 := by
  have h1 : ∀ o : Out, (outK o).depth ≤ 2 := by
    intro o
    cases o with
    | none => decide
    | some q => obtain ⟨p, c⟩ := q; simp [outK, NestedKey.depth, NestedKey.depthAll]
  have h2 : ∀ l : List Out, NestedKey.depthAll (l.map outK) ≤ 2 := by
    intro l
    induction l with
    | nil => simp [NestedKey.depthAll]
    | cons o r ih =>
      simp only [List.map_cons, NestedKey.depthAll]
      exact Nat.max_le.mpr ⟨h1 o, ih⟩
  have := h2 l
  unfold outsK
  simp only [NestedKey.depth]
  omega
theorem outD_alike (o o' : Out) : alike (outD o) (outD o') = true := by
  cases o with
  | none => cases o' with
    | none => rfl
    | some q => obtain ⟨p, c⟩ := q; rfl
  | some q =>
    obtain ⟨p, c⟩ := q
    cases o' with
    | none => rfl
    | some q' => obtain ⟨p', c'⟩ := q'; rfl
theorem outs_alikeAll : ∀ l l' : List Out, alikeAll (l.map outD) (l'.map outD) = true
  | [], l' => by simp [alikeAll]
  | o :: r, [] => by simp [alikeAll]
  | o :: r, o' :: r' => by
    simp only [List.map_cons, alikeAll, outD_alike, outs_alikeAll r r', Bool.and_self]
theorem outs_alike (l l' : List Out) : alike (.tuple (l.map outD)) (.tuple (l'.map outD)) = true := by
  simp only [alike]
  exact outs_alikeAll l l'
/-- the arguments of the three functions of lateness, as data -/
structure ArgsOk (G : Hp) (v u x : V) (L : Lay) (R : List Ev) (half : List Int) (late : Int) : Prop where
  dv : Dq G v (layD L)
  hL : LayOk L
  du : Dq G u (recD R)
  hR : RecOk (mWide L) R
  R8 : R.length ≤ 8
  dx : Dq G x (intsD half)
  hh : HalfOk L half
  hl : half.length ≤ 1000
  l0 : 0 ≤ late
  l9 : late ≤ 1000000000
def InOrd (rs : List (List Out)) : Prop := rs.Pairwise fun a b => dataLt (outsD b) (outsD a) = false
def sp_late_results : Sp := fun vs H Q _ => ∃ (G : Hp) (v u x : V) (L : Lay) (R : List Ev) (half : List Int) (late : Int), vs = [v, u, x, .int late] ∧ Same G H ∧ ArgsOk G v u x L R half late ∧ (mArrivals L R half).length ≤ 62 ∧
  ∀ y G' H' rs, Gr G H G' H' → Dq G' y (.list (rs.map outsD)) → rs.Nodup → InOrd rs → rs.length < 64 → (∀ o, o ∈ rs ↔ ∃ a ∈ mArrivals L R half, a.least ≤ late ∧ a.outs = o) → Q y H'
def optInts : Option (List Int) → PyData
  | none => .none
  | some d => intsD d
def mDelays (L : Lay) (R : List Ev) (half : List Int) (late : Int) (o : List Out) : Option (List Int) := (((mArrivals L R half).filter fun a => decide (a.least ≤ late) && decide (a.outs = o)).map (·.delays)).head?
def sp_delays_for : Sp := fun vs H Q _ => ∃ (G : Hp) (v u x z : V) (L : Lay) (R : List Ev) (half : List Int) (late : Int) (o : List Out), vs = [v, u, x, .int late, z] ∧ Same G H ∧ ArgsOk G v u x L R half late ∧ Dq G z (outsD o) ∧ (∀ q ∈ o, Fine 1 (outD q)) ∧
  ∀ y G' H', Gr G H G' H' → Dq G' y (optInts (mDelays L R half late o)) → Q y H'
def sp_safe_late : Sp := fun vs H Q _ => ∃ (G : Hp) (v u x : V) (L : Lay) (R : List Ev) (half : List Int) (most : Int), vs = [v, u, x, .int most] ∧ Same G H ∧ ArgsOk G v u x L R half most ∧
  ∀ H' s, Same H H' → (s = most ∨ ∃ a ∈ mArrivals L R half, a.outs ≠ mFlat L R ∧ s = a.least - 1) → s ≤ most → (∀ a ∈ mArrivals L R half, a.outs ≠ mFlat L R → s ≤ a.least - 1) → Q (.int s) H'
def sp_margins : Sp := fun vs H Q _ => ∃ (G : Hp) (v u : V) (L : Lay) (R : List Ev), vs = [v, u] ∧ Same G H ∧ Dq G v (layD L) ∧ LayOk L ∧ Dq G u (recD R) ∧ KeysOk L R ∧ R.length ≤ 400 ∧
  ∀ y G' H' (rows : List PyData), Gr G H G' H' → Dq G' y (.list rows) → rows.length ≤ 400 → (∃ ms : List Int, ms = mMargins L R ∧ rows.length = ms.length ∧ ∀ (i : Nat) (m : Int), ms[i]? = some m → ∃ r, rows[i]? = some (PyData.tuple (PyData.int m :: r))) → Q y H'
def sp_slack : Sp := fun vs H Q _ => ∃ (G : Hp) (v u : V) (L : Lay) (R : List Ev), vs = [v, u] ∧ Same G H ∧ Dq G v (layD L) ∧ LayOk L ∧ Dq G u (recD R) ∧ RecOk (mWide L) R ∧
  ∀ H', Same H H' → (mMargins L R = [] → Q .non H') ∧ (∀ m, m ∈ mMargins L R → (∀ y ∈ mMargins L R, m ≤ y) → Q (.int m) H')
/-! the arrivals' outputs are plain -/
theorem orderKeys {L : Lay} {R : List Ev} {half : List Int} (hK : KeysOk L R) {row : List Nat} (h : row ∈ rowsOf R half) : ∀ s ∈ orderOf R row, 0 ≤ s.1 ∧ s.1 < mWide L := fun s hs => by
  obtain ⟨n, hn, e⟩ := List.mem_map.mp hs
  have hnR := (row_ok h).2 n hn
  rw [← e, List.getD_eq_getElem?_getD, List.getElem?_eq_getElem hnR]
  exact hK _ (List.getElem_mem hnR)
theorem arr_cases {L : Lay} {R : List Ev} {half : List Int} {a : Arr} (h : a ∈ mArrivals L R half) : ∃ row ∈ rowsOf R half, ∃ t, mLifted (arrBounds R half row) (List.replicate (row.length + 2) 0) = some t ∧ ∃ w ∈ mWays L (orderOf R row) ⟨pl0, arrBounds R half row, t, [], []⟩, a = arrOf R row w := by
  obtain ⟨row, hr, ha⟩ := List.mem_flatMap.mp h
  unfold rowArr at ha
  cases e : mLifted (arrBounds R half row) (List.replicate (row.length + 2) 0) with
  | none => rw [e] at ha; cases ha
  | some t =>
    rw [e] at ha
    obtain ⟨w, hw, e2⟩ := List.mem_map.mp ha
    exact ⟨row, hr, t, e, w, hw, e2.symm⟩
theorem arr_out {L : Lay} (hL : LayOk L) {R : List Ev} {half : List Int} (hK : KeysOk L R) {a : Arr} (h : a ∈ mArrivals L R half) : ∀ o ∈ a.outs, OutOk o := by
  obtain ⟨row, hr, t, hl, w, hw, rfl⟩ := arr_cases h
  have htl : t.length = row.length + 2 := by rw [lifted_len hl, List.length_replicate]
  have := waysGo_out hL (S := orderOf R row) (T := row.length + 2) (n := 0) (orderKeys hK hr) (ws := [⟨pl0, arrBounds R half row, t, [], []⟩]) (fun w' hw' => by
    rw [List.mem_singleton.mp hw']
    exact ⟨fun _ h => by (cases h), fun _ h => by (cases h), htl⟩) w hw
  intro o ho
  exact this.out o (List.mem_filter.mp ho).1
theorem fine_outs {o : List Out} (h : ∀ q ∈ o, Fine 1 (outD q)) : Fine 2 (outsD o) := by
  intro x hx
  obtain ⟨q, hq, rfl⟩ := List.mem_map.mp hx
  exact h q hq
theorem outD_inj {o o' : Out} (h : outD o = outD o') : o = o' := by
  cases o with
  | none =>
    cases o' with
    | none => rfl
    | some q => obtain ⟨p, c⟩ := q; cases h
  | some q =>
    obtain ⟨p, c⟩ := q
    cases o' with
    | none => cases h
    | some q' =>
      obtain ⟨p', c'⟩ := q'
      simp [outD] at h
      obtain ⟨h1, rfl⟩ := h
      have : p = p' := by
        cases p <;> cases p' <;> first | rfl | exact absurd h1 (by decide +kernel)
      rw [this]
theorem outsD_inj {o o' : List Out} : outsD o = outsD o' ↔ o = o' := by
  constructor
  · intro h
    exact (List.map_inj_right fun _ _ e => outD_inj e).mp (PyData.list.inj h)
  · intro h; rw [h]
theorem arr_parts {H : Hp} {v : V} {a : Arr} (h : Dq H v (arrD a)) : ∃ p y z, v = .ref p ∧ H p = some (.tup [.int a.least, y, z]) ∧ Dq H y (outsD a.outs) ∧ Dq H z (intsD a.delays) := by
  obtain ⟨p, xs, rfl, hp, t⟩ := Dq.tupE h
  obtain ⟨x, y, z, rfl, h1, h2, h3⟩ := t.threeE
  rw [h1.intE] at hp
  exact ⟨p, y, z, rfl, hp, h2, h3⟩
theorem args_run {G H : Hp} {v u x : V} {L : Lay} {R : List Ev} {half : List Int} {late : Int} (a : ArgsOk G v u x L R half late) (s : Same G H) {Q : VK} (k : ∀ H', Same H H' → Q .non H') : sp_require_arguments [v, u, x, .int late] H Q C8.E0 :=
  ⟨v, u, x, L, R, half, late, rfl, a.dv.of s, a.hL, a.du.of s, a.hR, a.R8, a.dx.of s, a.hh, a.hl, a.l0, a.l9, k⟩
theorem fm_if {α β : Type} (p : α → Bool) (f : α → β) : ∀ l : List α, l.filterMap (fun q => if p q = true then some (f q) else none) = (l.filter p).map f
  | [] => rfl
  | q :: l => by
    cases h : p q with
    | true => rw [List.filterMap_cons, List.filter_cons_of_pos h, List.map_cons, ← fm_if p f l, if_pos h]
    | false => rw [List.filterMap_cons, List.filter_cons_of_neg (by rw [h]; exact nofun), ← fm_if p f l, if_neg (by rw [h]; exact nofun)]
theorem flatMap_le {α β : Type} (f : α → List β) (k : Nat) : ∀ l : List α, (∀ x ∈ l, (f x).length ≤ k) → (l.flatMap f).length ≤ l.length * k
  | [], _ => by simp
  | x :: l, h => by
    rw [List.flatMap_cons, List.length_append, List.length_cons, Nat.add_mul]
    have h1 := h x List.mem_cons_self
    have h2 := flatMap_le f k l fun y hy => h y (List.mem_cons_of_mem _ hy)
    omega
theorem next_le (L : Lay) (S : List Stp) (n : Nat) (s : Stp) (w : Wy) : (nextWays L S n s w).length ≤ 2 := by
  unfold nextWays
  split
  · simp
  · exact List.length_filterMap_le _ _
theorem waysGo_le (L : Lay) (S : List Stp) : ∀ (S' : List Stp) (n : Nat) (ws : List Wy), (waysGo L S n ws S').length ≤ ws.length * 2 ^ S'.length
  | [], n, ws => by simp [waysGo]
  | s :: r, n, ws => by
    have h1 := waysGo_le L S r (n + 1) (ws.flatMap (nextWays L S n s))
    have h2 := flatMap_le (nextWays L S n s) 2 ws fun w _ => next_le L S n s w
    show (waysGo L S (n + 1) (ws.flatMap (nextWays L S n s)) r).length ≤ ws.length * 2 ^ (r.length + 1)
    rw [Nat.pow_succ]
    refine Nat.le_trans h1 ?_
    rw [show ws.length * (2 ^ r.length * 2) = ws.length * 2 * 2 ^ r.length by rw [Nat.mul_comm (2 ^ r.length) 2, Nat.mul_assoc]]
    exact Nat.mul_le_mul_right _ h2
theorem rowArr_le {L : Lay} {R : List Ev} {half : List Int} {row : List Nat} (k : Nat) (h : ∀ t, (mWays L (orderOf R row) ⟨pl0, arrBounds R half row, t, [], []⟩).length ≤ k) : (rowArr L R half row).length ≤ k := by
  unfold rowArr
  split
  · exact Nat.zero_le _
  · rw [List.length_map]; exact h _
theorem arr_count {L : Lay} {R : List Ev} {half : List Int} (h8 : R.length ≤ 8) : (mArrivals L R half).length ≤ 65536 := by
  have h1 := rows_len (half := half) h8
  have h2 := flatMap_le (rowArr L R half) 256 (rowsOf R half) fun row hr => rowArr_le 256 fun t => by
    have h3 := waysGo_le L (orderOf R row) (orderOf R row) 0 [⟨pl0, arrBounds R half row, t, [], []⟩]
    have h4 : (orderOf R row).length = R.length := by unfold orderOf; rw [List.length_map]; exact (row_ok hr).1
    rw [h4] at h3
    refine Nat.le_trans h3 ?_
    have : 2 ^ R.length ≤ 256 := Nat.pow_le_pow_right (by decide) h8
    show 1 * 2 ^ R.length ≤ 256
    omega
  unfold mArrivals
  omega
section
variable {P : Program} {w : World} {K : PySem.W.Frag} {mg : Str → Option Value} {base : Heap}
abbrev sdelays_for : Stmt := top 55
abbrev Ndelays_for : List PySem.Str := ["layout", "record", "keys", "late", "outputs", "rows", "least", "told", "delays"]
abbrev Pdelays_for : List PySem.Str := ["layout", "record", "keys", "late", "outputs"]
theorem scdelays_for : FnScope Ndelays_for Pdelays_for (defScope sdelays_for) := ⟨rfl, rfl, rfl, by decide +kernel, rfl, by decide +kernel, by decide +kernel⟩
theorem ok_delays_for {f : Addr} {fd : FuncData} (F : Fun K "delays_for" "delays_for" sdelays_for f fd) (B : Bt mg) (c_require_arguments : C8.Cal P w K mg base 7 "require_arguments" sp_require_arguments []) (c_arrivals : C8.Cal P w K mg base 10 "arrivals" sp_arrivals []) : FnOk P w K mg base CX0 11 f fd Pdelays_for sp_delays_for := by
  refine F.ok scdelays_for (fun vs H Q E h => ?_) (fun cdv A outer s H vs Q E hr h => ?_)
  · obtain ⟨G, v, u, x, z, L, R, half, late, o, rfl, _⟩ := h
    rfl
  · obtain ⟨G, v, u, x, z, L, R, half, late, o, rfl, sG, a, dz, fz, k⟩ := h
    have nd := scdelays_for.nd
    refine ⟨_, (pss_cons (ps_expr (C8.pe_c c_require_arguments hr (by decide) rfl (pa_cons (pv 0) (pa_cons (pv 1) (pa_cons (pv 2) (pa_cons (pv 3) pa_nil))))))
    (pss_cons (ps_setLc (i := 5) (own := [("least", 6), ("told", 7), ("delays", 8)]) rfl nd rfl rfl (sw_true rfl rfl rfl (by decide +kernel)) (pi_list (C8.pe_c c_arrivals hr (by decide) rfl (pa_cons (pv 0) (pa_cons (pv 1) (pa_cons (pv 2) pa_nil))))) (blkOk_by (own := [("least", 6), ("told", 7), ("delays", 8)]) (N := Ndelays_for) (sc := defScope sdelays_for) (by decide +kernel)) (fun _ _ _ _ _ => (pg_tupq (n := 3) rfl (pgs_cons (pg_name (i := 6) nd rfl (Or.inl rfl)) (pgs_cons (pg_name (i := 7) nd rfl (Or.inl rfl)) (pgs_cons (pg_name (i := 8) nd rfl (Or.inl rfl)) pgs_nil))))) (fun _ _ _ _ _ => (pts_one (PW.pt (pw_and (pt_cmpR op_le (pv 6) (pv 3) (by first | exact nomark _ | rfl)) (pw_and1 (pt_cmpR (op_eqQ hr.units) (pv 7) (pv 4) (by first | exact nomark _ | rfl))))))) (fun _ _ _ _ _ => (pv 8)))
    (pss_one (ps_ret (pe_ifExp (pt_cmpR (op_neQ hr.units) (pv 5) (pe_lst pa_nil) (by first | exact nomark _ | rfl)) (pe_ix ixlq (pv 5) pe_int (fun _ _ => rfl)) pe_non))))), ?_⟩
    refine ⟨_, rfl, _, rfl, _, rfl, _, rfl, v, u, x, L, R, half, late, rfl, a.dv.of sG, a.hL, a.du.of sG, a.hR, a.R8, a.dx.of sG, a.hh, a.hl, a.l0, a.l9, fun H1 s1 => ?_⟩
    have g1 : Gr G H G H1 := (Gr.refl sG).same s1
    refine ⟨_, rfl, _, rfl, _, rfl, G, v, u, x, L, R, half, rfl, g1.sub, a.dv, a.hL, a.du, a.hR.keys, a.R8, a.dx, fun y G2 H2 g2 d2 => ?_⟩
    have g02 := g1.trans g2
    obtain ⟨ar, as, rfl, har, tas⟩ := d2.lstE
    have hal : as.length = (mArrivals L R half).length := by rw [tas.length, List.length_map]
    refine ⟨ar, rfl, ⟨_, sqL (g2.sub _ _ har)⟩, fun D hD => ?_⟩
    refine lcD (G := G) (G1 := G2) (fun i => ((mArrivals L R half)[i]?).bind fun q => if (decide (q.least ≤ late) && decide (q.outs = o)) = true then some (intsD q.delays) else none) (walkL (K := K) (a := ar) (xs := as)) (by rw [hal]; exact Nat.le_trans (arr_count a.R8) (by decide)) g02 (fun Gi Hi g => g.keep _ _ (g2.sub _ _ har)) hD (fun i y Gi Hi H' Ok No hi g yy ok no => ?_) fun G3 H3 g3 g23 dq => ?_
    · obtain ⟨rfl, hy⟩ := yy
      obtain ⟨q, eq, dv⟩ := getV_map tas hy
      obtain ⟨pq, y1, y2, rfl, hpq, dy1, dy2⟩ := arr_parts dv
      have hpq' : H' pq = some (.tup [.int q.least, y1, y2]) := g.keep _ _ (g2.sub _ _ hpq)
      have efull : (((mArrivals L R half)[i]?).bind fun q => if (decide (q.least ≤ late) && decide (q.outs = o)) = true then some (intsD q.delays) else none) = if (decide (q.least ≤ late) && decide (q.outs = o)) = true then some (intsD q.delays) else none := by rw [eq]; rfl
      refine ⟨pq, _, rfl, hpq', rfl, _, _, rfl, _, _, rfl, _, _, rfl, rfl, rfl, ?_⟩
      refine ⟨_, rfl, _, rfl, _, _, rfl, rfl, _, rfl, iteB (fun h => ?_) fun h => ?_⟩
      · refine ⟨_, rfl, _, rfl, 2, outsD q.outs, outsD o, dy1.of (g2.sub.trans g.keep), dz.of ((g02.ext.trans g02.sub |> fun _ => (g02.sub0 sG)).trans g.keep), by decide, fine_outs fun o' ho' => fineOut (arr_out a.hL a.hR.keys (List.mem_of_getElem? eq) o' ho'), fine_outs fz, fun c hc => ⟨c, rfl, ?_⟩⟩
        have hc2 : c = decide (q.outs = o) := by
          cases c with
          | true => exact (decide_eq_true (outsD_inj.mp (hc.mp rfl))).symm
          | false => exact (decide_eq_false fun e => by have := hc.mpr (outsD_inj.mpr e); cases this).symm
        subst hc2
        refine iteB (fun h2 => ⟨_, rfl, ok _ Gi _ _ (Gr.refl g.sub) (dy2.of g.ext) ?_⟩) fun h2 => no Gi _ (Gr.refl g.sub) ?_
        · show (((mArrivals L R half)[i]?).bind _) = _
          rw [efull, if_pos (by rw [h, h2]; rfl)]
        · show (((mArrivals L R half)[i]?).bind _) = _
          rw [efull, if_neg (by rw [h2, Bool.and_false]; exact nofun)]
      · refine no Gi _ (Gr.refl g.sub) ?_
        show (((mArrivals L R half)[i]?).bind _) = _
        have h' : decide (q.least ≤ late) = false := h
        rw [efull, if_neg (by rw [h', Bool.false_and]; exact nofun)]
    · have e1 : made (fun i => ((mArrivals L R half)[i]?).bind fun q => if (decide (q.least ≤ late) && decide (q.outs = o)) = true then some (intsD q.delays) else none) as.length = (((mArrivals L R half).filter fun a => decide (a.least ≤ late) && decide (a.outs = o)).map (·.delays)).map intsD := by
        rw [hal, made_get, List.map_map]
        exact fm_if (fun q : Arr => decide (q.least ≤ late) && decide (q.outs = o)) (fun q => intsD q.delays) _
      rw [e1] at dq
      have k1 := k
      unfold mDelays at k1
      generalize ((mArrivals L R half).filter fun a => decide (a.least ≤ late) && decide (a.outs = o)).map (·.delays) = ds at dq k1
      obtain ⟨D', rs, e2, hDs, trs⟩ := dq.lstE
      cases e2
      cases ds with
      | nil =>
        refine ⟨_, rfl, Nat.zero_le _, fun z hz => ?_⟩
        refine ⟨2, .list [], .list [], ((dq.of g3.sub).of (same_new hz)), ls upd_same .nil, by decide, (fun _ h => by cases h), (fun _ h => by cases h), fun c hc => ⟨c, rfl, ?_⟩⟩
        obtain rfl : c = false := by
          cases c with
          | false => rfl
          | true => exact absurd rfl (hc.mp rfl)
        exact k1 _ G3 _ (g3.tmp hz) .non
      | cons d ds =>
        obtain ⟨r0, rs', rfl, dr0, trs'⟩ := trs.consE
        refine ⟨_, rfl, Nat.zero_le _, fun z hz => ?_⟩
        have fds : Fine 2 (.list ((d :: ds).map intsD)) := by
          intro x hx
          obtain ⟨q, _, rfl⟩ := List.mem_map.mp hx
          intro y hy
          obtain ⟨i, _, rfl⟩ := List.mem_map.mp hy
          trivial
        refine ⟨2, .list ((d :: ds).map intsD), .list [], ((dq.of g3.sub).of (same_new hz)), ls upd_same .nil, by decide, fds, (fun _ h => by cases h), fun c hc => ⟨c, rfl, ?_⟩⟩
        obtain rfl : c = true := hc.mpr (by intro e; cases e)
        refine ⟨_, rfl, D, _, _, r0, rfl, rfl, (same_new hz) _ _ (g3.sub _ _ hDs), atI_nat (j := 0) rfl, ?_⟩
        exact k1 _ G3 _ (g3.tmp hz) dr0
abbrev ssafe_late : Stmt := top 56
abbrev Nsafe_late : List PySem.Str := ["layout", "record", "keys", "most", "due", "least", "outputs", "delays"]
abbrev Psafe_late : List PySem.Str := ["layout", "record", "keys", "most"]
theorem scsafe_late : FnScope Nsafe_late Psafe_late (defScope ssafe_late) := ⟨rfl, rfl, rfl, by decide +kernel, rfl, by decide +kernel, by decide +kernel⟩
theorem ok_safe_late {f : Addr} {fd : FuncData} (F : Fun K "safe_late" "safe_late" ssafe_late f fd) (B : Bt mg) (c_require_arguments : C8.Cal P w K mg base 7 "require_arguments" sp_require_arguments []) (c_arrivals : C8.Cal P w K mg base 10 "arrivals" sp_arrivals []) (c_flat : C8.Cal P w K mg base 8 "flat" sp_flat []) : FnOk P w K mg base CX0 11 f fd Psafe_late sp_safe_late := by
  refine F.ok scsafe_late (fun vs H Q E h => ?_) (fun cdv A outer s H vs Q E hr h => ?_)
  · obtain ⟨G, v, u, x, L, R, half, late, rfl, _⟩ := h
    rfl
  · obtain ⟨G, v, u, x, L, R, half, most, rfl, sG, a, k⟩ := h
    have nd := scsafe_late.nd
    refine ⟨_, (pss_cons (ps_expr (C8.pe_c c_require_arguments hr (by decide) rfl (pa_cons (pv 0) (pa_cons (pv 1) (pa_cons (pv 2) (pa_cons (pv 3) pa_nil))))))
    (pss_cons (ps_set (i := 4) nd rfl (Or.inr rfl) (C8.pe_c c_flat hr (by decide) rfl (pa_cons (pv 0) (pa_cons (pv 1) pa_nil))))
    (pss_one (ps_ret (pe_callB (minq rfl) (by rfl) B.min (by decide +kernel) (pa_cons (pe_op op_cat (pe_lc (own := [("least", 5), ("outputs", 6), ("delays", 7)]) rfl nd (pi_list (C8.pe_c c_arrivals hr (by decide) rfl (pa_cons (pv 0) (pa_cons (pv 1) (pa_cons (pv 2) pa_nil))))) (blkOk_by (own := [("least", 5), ("outputs", 6), ("delays", 7)]) (N := Nsafe_late) (sc := defScope ssafe_late) (by decide +kernel)) (fun _ _ _ _ _ => (pg_tupq (n := 3) rfl (pgs_cons (pg_name (i := 5) nd rfl (Or.inl rfl)) (pgs_cons (pg_name (i := 6) nd rfl (Or.inl rfl)) (pgs_cons (pg_name (i := 7) nd rfl (Or.inl rfl)) pgs_nil))))) (fun _ _ _ _ _ => (pts_one (pt_cmpR (op_neQ hr.units) (pv 6) (pv 4) (by first | exact nomark _ | rfl)))) (fun _ _ _ _ _ => (pe_op op_sub (pv 5) pe_int))) (pe_lst (pa_cons (pv 3) pa_nil))) pa_nil)))))), ?_⟩
    refine ⟨_, rfl, _, rfl, _, rfl, _, rfl, v, u, x, L, R, half, most, rfl, a.dv.of sG, a.hL, a.du.of sG, a.hR, a.R8, a.dx.of sG, a.hh, a.hl, a.l0, a.l9, fun H1 s1 => ?_⟩
    have g1 : Gr G H G H1 := (Gr.refl sG).same s1
    refine ⟨_, rfl, _, rfl, G, v, u, L, R, rfl, g1.sub, a.dv, a.hL, a.du, a.hR, fun due G2 H2 g2 d2 => ?_⟩
    have g02 := g1.trans g2
    refine ⟨_, rfl, _, rfl, _, rfl, G2, v, u, x, L, R, half, rfl, g02.sub, a.dv.of g2.ext, a.hL, a.du.of g2.ext, a.hR.keys, a.R8, a.dx.of g2.ext, fun y G3 H3 g3 d3 => ?_⟩
    have g03 := g02.trans g3
    obtain ⟨ar, as, rfl, har, tas⟩ := d3.lstE
    have hal : as.length = (mArrivals L R half).length := by rw [tas.length, List.length_map]
    have fd : ∀ q ∈ mFlat L R, Fine 1 (outD q) := fun q hq => by
      obtain ⟨s, hs, e⟩ := List.mem_map.mp (List.mem_filter.mp hq).1
      rw [← e]
      exact fineOut (steps_out a.hL (fun _ h => by cases h) a.hR.keys s hs)
    refine ⟨ar, rfl, ⟨_, sqL (g3.sub _ _ har)⟩, fun D hD => ?_⟩
    refine lcD (G := G) (G1 := G3) (fun i => ((mArrivals L R half)[i]?).bind fun q => if q.outs = mFlat L R then none else some (.int (q.least - 1))) (walkL (K := K) (a := ar) (xs := as)) (by rw [hal]; exact Nat.le_trans (arr_count a.R8) (by decide)) g03 (fun Gi Hi g => g.keep _ _ (g3.sub _ _ har)) hD (fun i y Gi Hi H' Ok No hi g yy ok no => ?_) fun G4 H4 g4 g34 dq => ?_
    · obtain ⟨rfl, hy⟩ := yy
      obtain ⟨q, eq, dv⟩ := getV_map tas hy
      obtain ⟨pq, y1, y2, rfl, hpq, dy1, dy2⟩ := arr_parts dv
      have hpq' : H' pq = some (.tup [.int q.least, y1, y2]) := g.keep _ _ (g3.sub _ _ hpq)
      have efull : (((mArrivals L R half)[i]?).bind fun q => if q.outs = mFlat L R then none else some (PyData.int (q.least - 1))) = if q.outs = mFlat L R then none else some (.int (q.least - 1)) := by rw [eq]; rfl
      refine ⟨pq, _, rfl, hpq', rfl, _, _, rfl, _, _, rfl, _, _, rfl, rfl, rfl, ?_⟩
      refine ⟨_, rfl, _, rfl, 2, outsD q.outs, outsD (mFlat L R), dy1.of (g3.sub.trans g.keep), (d2.of g2.sub).of ((g3.keep).trans g.keep), by decide, fine_outs fun o' ho' => fineOut (arr_out a.hL a.hR.keys (List.mem_of_getElem? eq) o' ho'), fine_outs fd, fun c hc => ⟨c, rfl, ?_⟩⟩
      refine iteB (fun h2 => ⟨_, rfl, _, _, rfl, rfl, ok _ Gi _ _ (Gr.refl g.sub) (.int _) ?_⟩) fun h2 => no Gi _ (Gr.refl g.sub) ?_
      · show (((mArrivals L R half)[i]?).bind _) = _
        rw [efull, if_neg (fun e => (hc.mp h2) (outsD_inj.mpr e))]
      · show (((mArrivals L R half)[i]?).bind _) = _
        have : q.outs = mFlat L R := by
          by_cases e : q.outs = mFlat L R
          · exact e
          · have := hc.mpr (fun z => e (outsD_inj.mp z))
            rw [h2] at this
            cases this
        rw [efull, if_pos this]
    · have e1 : made (fun i => ((mArrivals L R half)[i]?).bind fun q => if q.outs = mFlat L R then none else some (PyData.int (q.least - 1))) as.length = (((mArrivals L R half).filter fun q => !decide (q.outs = mFlat L R)).map fun q => q.least - 1).map PyData.int := by
        rw [hal, made_get]
        induction mArrivals L R half with
        | nil => rfl
        | cons q l ih =>
          by_cases h : q.outs = mFlat L R
          · rw [List.filterMap_cons, List.filter_cons_of_neg (by simp [h]), ← ih]; simp [h]
          · rw [List.filterMap_cons, List.filter_cons_of_pos (by simp [h]), List.map_cons, List.map_cons, ← ih]; simp [h]
      rw [e1] at dq
      obtain ⟨D', rs, e2, hDs, trs⟩ := dq.lstE
      cases e2
      obtain rfl := dp_intsE trs
      refine ⟨_, rfl, by show 1 ≤ sizeLine; decide, fun z hz => ?_⟩
      have hDz : (upd H4 z (.lst [.int most])) D = some (.lst ((((mArrivals L R half).filter fun q => !decide (q.outs = mFlat L R)).map fun q => q.least - 1).map V.int)) := (same_new hz) _ _ (g4.sub _ _ hDs)
      refine ⟨D, z, _, _, rfl, rfl, hDz, upd_same, small (by
        have h1 := arr_count (half := half) (L := L) a.R8
        have h2 := List.length_filter_le (fun q : Arr => !decide (q.outs = mFlat L R)) (mArrivals L R half)
        simp only [List.length_map, List.length_singleton]
        omega), fun p hp => ?_⟩
      refine ⟨p, ((((mArrivals L R half).filter fun q => !decide (q.outs = mFlat L R)).map fun q => q.least - 1) ++ [most]), rfl, by rw [upd_same, List.map_append]; rfl, by simp, fun m hm hle => ?_⟩
      refine k _ m ((g4.keep.trans (same_new hz)).trans (same_new hp)) ?_ (hle most (by simp)) fun q hq hne => ?_
      · rcases List.mem_append.mp hm with h | h
        · obtain ⟨q, hq, e⟩ := List.mem_map.mp h
          obtain ⟨hq1, hq2⟩ := List.mem_filter.mp hq
          exact .inr ⟨q, hq1, by simpa using hq2, e.symm⟩
        · exact .inl (List.mem_singleton.mp h)
      · exact hle _ (List.mem_append_left _ (List.mem_map.mpr ⟨q, List.mem_filter.mpr ⟨hq, by simpa using hne⟩, rfl⟩))
end
end HT7
end partW18
section partW19
set_option Elab.async false
set_option linter.all false
set_option maxRecDepth 100000
namespace HT7
open PySem PySem.Spec PyProof.Rows L2 HT5 HT6 HT4
open PySem.W (alike alikeAll dataLt AllAlike)
theorem steps_len (L : Lay) (R0 : List Ev) : ∀ (r : List Ev) (n : Nat) (st : Pl), (stepsGo L R0 n st r).length = r.length
  | [], n, st => rfl
  | e :: r, n, st => by show (_ :: stepsGo L R0 (n + 1) _ r).length = _; simp [steps_len L R0 r]
def margP (G H G2 : Hp) (la pa D : Addr) (L : Lay) (R : List Ev) : Nat → L2.St → Hp → Prop := fun i σ H' => ∃ v3 v4 v5 v6 v7 v8 v9 v10 Gi acc rows ms, σ = [some (.ref la), some (.ref pa), some (.ref D), v3, v4, v5, v6, v7, v8, v9, v10] ∧ Gr G H Gi H' ∧ Same G2 Gi ∧ H' D = some (.lst acc) ∧ Gi D = none ∧ DqAll Gi acc rows ∧ rows.length = ms.length ∧ rows.length ≤ i ∧ ms ++ (enumL i ((mSteps L R).drop i)).filterMap (fun p => marginOf R p.1 p.2.1) = mMargins L R ∧ (∀ (i : Nat) (m : Int), ms[i]? = some m → ∃ r, rows[i]? = some (PyData.tuple (PyData.int m :: r)))
section
variable {P : Program} {w : World} {K : PySem.W.Frag} {mg : Str → Option Value} {base : Heap}
abbrev smargins : Stmt := top 58
abbrev Nmargins : List PySem.Str := ["layout", "record", "found", "number", "taken", "output", "action", "up", "length", "time", "margin"]
abbrev Pmargins : List PySem.Str := ["layout", "record"]
theorem scmargins : FnScope Nmargins Pmargins (defScope smargins) := ⟨rfl, rfl, rfl, by decide +kernel, rfl, by decide +kernel, by decide +kernel⟩
theorem ok_margins {f : Addr} {fd : FuncData} (F : Fun K "margins" "margins" smargins f fd) (B : Bt mg) (c_steps_of : C8.Cal P w K mg base 5 "steps_of" sp_steps_of []) (c_is_dual : C8.Cal P w K mg base 1 "is_dual" sp_is_dual []) (c_decider_of : C8.Cal P w K mg base 1 "decider_of" sp_decider_of []) : FnOk P w K mg base CX0 6 f fd Pmargins sp_margins := by
  refine F.ok scmargins (fun vs H Q E h => ?_) (fun cdv A outer s H vs Q E hr h => ?_)
  · obtain ⟨G, v, u, L, R, rfl, _⟩ := h
    rfl
  · obtain ⟨G, v, u, L, R, rfl, sG, hv, hL, hu, hK, hl, k⟩ := h
    have nd := scmargins.nd
    obtain ⟨la, lxs, rfl, _, _⟩ := Dq.lstE hv
    obtain ⟨pa, xs, rfl, ha, ta⟩ := Dq.lstE hu
    refine ⟨_, (pss_cons (ps_set (i := 2) nd rfl (Or.inl rfl) (pe_lst pa_nil))
    (pss_cons (ps_for PassesOwn.never rfl (pi_enum (by rfl) B.enumerate (pa_cons (pe_ix ixtq (C8.pe_c c_steps_of hr (by decide) rfl (pa_cons (pv 0) (pa_cons (pv 1) pa_nil))) pe_int (fun _ _ => rfl)) pa_nil)) (pg_tupq (n := 2) rfl (pgs_cons (pg_name (i := 3) nd rfl (Or.inl rfl)) (pgs_cons (pg_tupq (n := 2) rfl (pgs_cons (pg_name (i := 4) nd rfl (Or.inl rfl)) (pgs_cons (pg_name (i := 5) nd rfl (Or.inl rfl)) pgs_nil))) pgs_nil))) (pss_cons (ps_set (i := 6) nd rfl (Or.inl rfl) (pe_ifExp (pt_cmpR op_isN (pv 4) pe_non (by first | exact nomark _ | rfl)) pe_str (pe_ix ixtq (pv 4) pe_int (fun _ _ => rfl))))
    (pss_one (ps_if (pt_val (C8.pe_c c_is_dual hr (by decide) rfl (pa_cons (pv 6) pa_nil))) (pss_cons (ps_set (i := 7) nd rfl (Or.inl rfl) (C8.pe_c c_decider_of hr (by decide) rfl (pa_cons (pv 1) (pa_cons (pv 3) (pa_cons (pe_ix ixtq (pv 6) pe_int (fun _ _ => rfl)) pa_nil)))))
    (pss_one (ps_if (PW.pt (pw_and (pt_cmpR op_notN (pv 7) pe_non (by first | exact nomark _ | rfl)) (pw_and1 (pt_cmpR op_eq (pe_ix ixtq (pe_ix ixlq (pv 1) (pv 7) (fun _ _ => rfl)) pe_int (fun _ _ => rfl)) (pe_ix ixtq (pe_ix ixlq (pv 1) (pv 3) (fun _ _ => rfl)) pe_int (fun _ _ => rfl)) (by first | exact nomark _ | rfl))))) (pss_cons (ps_par (i := 8) (j := 9) (by rfl) nd rfl rfl (by decide) rfl rfl (pa_cons (pe_op op_sub (pe_ix ixtq (pe_ix ixlq (pv 1) (pv 7) (fun _ _ => rfl)) pe_int (fun _ _ => rfl)) (pe_ix ixtq (pe_ix ixlq (pv 1) (pv 3) (fun _ _ => rfl)) pe_int (fun _ _ => rfl))) (pa_cons (pe_ix ixtq (pv 6) pe_int (fun _ _ => rfl)) pa_nil)) (by rfl))
    (pss_cons (ps_set (i := 10) nd rfl (Or.inl rfl) (pe_ifExp (pt_cmpR op_lt (pv 8) (pv 9) (by first | exact nomark _ | rfl)) (pe_op op_fdivW (pe_op op_sub (pe_op op_sub (pv 9) pe_int) (pv 8)) pe_int) (pe_op op_fdivW (pe_op op_sub (pv 8) (pv 9)) pe_int)))
    (pss_one (ps_expr (pe_bm PySem.F.plainAttrs_list PySem.F.slot_list_append PySem.F.type_list_append mt_append (pv 2) (pa_cons (pe_tup (pa_cons (pv 10) (pa_cons (pv 3) (pa_cons (pv 7) (pa_cons (pv 9) pa_nil))))) pa_nil)))))) pss_nil))) pss_nil))))
    (pss_one (ps_ret (pv 2))))), ?_⟩
    refine ⟨Nat.zero_le _, fun D hD => ?_⟩
    have g1 : Gr G H G (upd H D (.lst [])) := (Gr.refl sG).tmp hD
    have hD1 : (upd H D (.lst [])) D = some (.lst []) := upd_same
    have gD1 : G D = none := sG.free hD
    generalize upd H D (.lst []) = H1 at g1 hD1 ⊢
    refine ⟨_, rfl, _, rfl, G, .ref la, .ref pa, L, R, rfl, g1.sub, hv, hL, hu, hK, hl, fun q l pl G2 H2 g2 hq dl => ?_⟩
    have g02 := g1.trans g2
    obtain ⟨l', ss, e, hls, tls⟩ := dl.lstE
    cases e
    have hsl : ss.length = R.length := by rw [tls.length, List.length_map]; exact steps_len L R R 0 pl0
    have hD2 := g2.keep _ _ hD1
    have gD2 := g2.out hD1 gD1
    refine ⟨q, _, _, _, rfl, rfl, g2.sub _ _ hq, atI_nat (j := 0) rfl, l, ss, rfl, sqL (g2.sub _ _ hls), ?_⟩
    refine for_it (walkE (K := K) (a := l) (xs := ss)) (margP G H G2 la pa D L R)
      ⟨none, none, none, none, none, none, none, none, G2, [], [], [], rfl, g02, Same.refl _, hD2, gD2, .nil, rfl, Nat.le_refl _, rfl, fun i m h => by simp at h⟩ (fun i σ H' _ h => ?_) (fun i y σ H3 H4 hi h yy => ?_) fun σ H3 h => ?_
    · obtain ⟨_, _, _, _, _, _, _, _, _, _, _, _, _, g, s, _⟩ := h
      exact g.sub _ _ (s _ _ hls)
    · obtain ⟨v3, v4, v5, v6, v7, v8, v9, v10, Gi, acc, rows, ms, rfl, g, s2, hDi, gDi, hacc, hrm, hrl, hms, hrows⟩ := h
      obtain ⟨T, x1, y1, rfl, hT, rfl, e1, e2⟩ := yy
      cases e1
      obtain ⟨⟨tk, out⟩, es, dv⟩ := getV_map tls e2
      have hi2 : i < (mSteps L R).length := (List.getElem?_eq_some_iff.mp es).1
      have hiR : i < R.length := by
        have := steps_len L R R 0 pl0
        have e3 : (mSteps L R).length = R.length := this
        omega
      have edr : (mSteps L R).drop i = (tk, out) :: (mSteps L R).drop (i + 1) := by
        rw [List.drop_eq_getElem_cons hi2, (List.getElem?_eq_some_iff.mp es).2]
      rw [edr] at hms
      have hms' : ms ++ ((marginOf R i tk).toList ++ (enumL (i + 1) ((mSteps L R).drop (i + 1))).filterMap (fun p => marginOf R p.1 p.2.1)) = mMargins L R := by
        rw [← hms]
        congr 1
        show _ = List.filterMap (fun p => marginOf R p.1 p.2.1) ((i, (tk, out)) :: enumL (i + 1) ((mSteps L R).drop (i + 1)))
        rw [List.filterMap_cons]
        cases marginOf R i tk <;> rfl
      obtain ⟨ps, ps2, rfl, hps, tps⟩ := (show Dq G2 y1 (.tuple [takenD tk, outD out]) from dv).tupE
      obtain ⟨vt, vo, rfl, dt, dvo⟩ := tps.twoE
      have nDT : D ≠ T := ne_of_none hDi hT
      have gT : Gr G H Gi (upd H3 T (.tup [.int (i : Nat), .ref ps])) := g.tmp hT
      have hDT : (upd H3 T (.tup [.int (i : Nat), .ref ps])) D = some (.lst acc) := by rw [upd_ne nDT]; exact hDi
      have hTT : (upd H3 T (.tup [.int (i : Nat), .ref ps])) T = some (.tup [.int (i : Nat), .ref ps]) := upd_same
      generalize upd H3 T (.tup [.int (i : Nat), .ref ps]) = HT at gT hDT hTT ⊢
      have s2T : Same G2 HT := s2.trans gT.sub
      refine ⟨T, _, rfl, hTT, rfl, _, _, rfl, _, _, rfl, ⟨ps, _, rfl, s2T _ _ hps, rfl, _, _, rfl, _, _, rfl, rfl, rfl, ?_⟩⟩
      -- what goes on when nothing is found here
      have skip : ∀ (H5 : Hp) (c6 c7 : Option V), Same HT H5 → marginOf R i tk = none → margP G H G2 la pa D L R (i + 1) [some (V.ref la), some (.ref pa), some (.ref D), some (.int (i : Nat)), some vt, some vo, c6, c7, v8, v9, v10] H5 := fun H5 c6 c7 s5 hm => by
        refine ⟨_, _, _, _, _, _, _, _, Gi, acc, rows, ms, rfl, gT.same s5, s2, s5 _ _ hDT, gDi, hacc, hrm, by omega, ?_, hrows⟩
        rw [hm] at hms'
        exact hms'
      cases tk with
      | none =>
        obtain rfl := dt.nonE
        refine ⟨_, rfl, rfl, true, rfl, ?_⟩
        refine ⟨_, rfl, .str "none", .non, rfl, .str _, _, rfl, ?_⟩
        exact skip HT _ _ (Same.refl _) rfl
      | some la2 =>
        obtain ⟨ly, ac⟩ := la2
        obtain ⟨pt, pts, rfl, hpt, tpt⟩ := (show Dq G2 vt (.tuple [.int (ly : Nat), ac.d]) from dt).tupE
        obtain ⟨t1, t2, rfl, dt1, dt2⟩ := tpt.twoE
        refine ⟨_, rfl, rfl, false, rfl, ?_⟩
        refine ⟨_, rfl, pt, _, _, _, rfl, rfl, s2T _ _ hpt, atI_nat (j := 1) rfl, ?_⟩
        refine ⟨_, rfl, t2, ac, rfl, dt2.of s2T, _, rfl, ?_⟩
        cases ac with
        | non => exact skip HT _ _ (Same.refl _) rfl
        | thr => exact skip HT _ _ (Same.refl _) rfl
        | w x => exact skip HT _ _ (Same.refl _) rfl
        | dual c hh tm r =>
          obtain ⟨pd, ds, rfl, hpd, td⟩ := (show Dq G2 t2 (.tuple [.str "dual", .str c, hh.d, .int tm, .str r]) from dt2).tupE
          obtain ⟨w1, w2, w3, w4, w5, rfl, e1, e2, e3, e4, e5⟩ := td.fiveE
          obtain rfl := e4.intE
          obtain rfl := e5.strE
          have duT : Dq HT (.ref pa) (recD R) := hu.of (gT.sub0 sG)
          refine ⟨_, rfl, _, rfl, _, rfl, pd, _, _, _, rfl, rfl, s2T _ _ hpd, atI_nat (j := 4) rfl, .ref pa, R, i, r, rfl, duT, hiR, hl, fun H5 s5 => ?_⟩
          have em : marginOf R i (some (ly, .dual c hh tm r)) = match mDecider (R.map Ev.stp) i r with
            | none => none
            | some p => if keyAt (R.map Ev.stp) p = keyAt (R.map Ev.stp) i then
                some (if tickAt R p - tickAt R i < tm then (tm - 1 - (tickAt R p - tickAt R i)).fdiv 2 else (tickAt R p - tickAt R i - tm).fdiv 2)
              else none := rfl
          cases hd : mDecider (R.map Ev.stp) i r with
          | none =>
            rw [hd] at em
            refine ⟨_, rfl, rfl, false, rfl, ?_⟩
            exact skip H5 _ _ s5 em
          | some p =>
            rw [hd] at em
            dsimp only at em
            obtain ⟨q1, q2⟩ := decider_lt hd
            rw [List.length_map] at q2
            obtain ⟨er, ek, et⟩ := ev_get hiR
            obtain ⟨er2, ek2, et2⟩ := ev_get q2
            obtain ⟨pe, hxe, hpe⟩ := ev_at ta er
            obtain ⟨pe2, hxe2, hpe2⟩ := ev_at ta er2
            have g5 := gT.same s5
            have pk : ∀ {b : Addr} {o : HO}, G b = some o → H5 b = some o := fun hb => g5.keep _ _ (sG _ _ hb)
            rw [← et, ← ek] at hpe
            rw [← et2, ← ek2] at hpe2
            refine ⟨_, rfl, rfl, true, rfl, ?_⟩
            refine ⟨_, rfl, _, rfl, pa, xs, _, V.ref pe2, rfl, rfl, pk ha, atI_nat hxe2, pe2, _, _, _, rfl, rfl, pk hpe2, atI_nat (j := 1) rfl, ?_⟩
            refine ⟨_, rfl, _, rfl, pa, xs, _, V.ref pe, rfl, rfl, pk ha, atI_nat hxe, pe, _, _, _, rfl, rfl, pk hpe, atI_nat (j := 1) rfl, rfl, _, rfl, ?_⟩
            refine iteB (fun h => ?_) fun h => ?_
            · have hkk : keyAt (R.map Ev.stp) p = keyAt (R.map Ev.stp) i := by simpa using h
              rw [if_pos hkk] at em
              refine ⟨_, rfl, _, rfl, pa, xs, _, V.ref pe2, rfl, rfl, pk ha, atI_nat hxe2, pe2, _, _, _, rfl, rfl, pk hpe2, atI_nat (j := 0) rfl, ?_⟩
              refine ⟨_, rfl, _, rfl, pa, xs, _, V.ref pe, rfl, rfl, pk ha, atI_nat hxe, pe, _, _, _, rfl, rfl, pk hpe, atI_nat (j := 0) rfl, _, _, rfl, rfl, ?_⟩
              refine ⟨_, rfl, pd, _, _, _, rfl, rfl, s5 _ _ (s2T _ _ hpd), atI_nat (j := 3) rfl, _, _, rfl, ?_⟩
              have fin : ∀ mv : Int, mv = (if tickAt R p - tickAt R i < tm then (tm - 1 - (tickAt R p - tickAt R i)).fdiv 2 else (tickAt R p - tickAt R i - tm).fdiv 2) → [V.int mv, .int (i : Nat), .int (p : Nat), .int tm].length ≤ sizeLine ∧ ∀ z, H5 z = none → ∃ l xs y, V.ref D = .ref l ∧ [V.ref z] = [y] ∧ (upd H5 z (.tup [V.int mv, .int (i : Nat), .int (p : Nat), .int tm])) l = some (.lst xs) ∧ xs.length < sizeLine ∧ margP G H G2 la pa D L R (i + 1) [some (V.ref la), some (.ref pa), some (.ref D), some (.int (i : Nat)), some (V.ref pt), some vo, some (V.ref pd), some (V.int (p : Nat)), some (.int (tickAt R p - tickAt R i)), some (.int tm), some (.int mv)] (upd (upd H5 z (.tup [V.int mv, .int (i : Nat), .int (p : Nat), .int tm])) l (.lst (xs ++ [y]))) := fun mv hmv => by
                refine ⟨by show 4 ≤ sizeLine; decide, fun z hz => ?_⟩
                have hD5 : H5 D = some (.lst acc) := s5 _ _ hDT
                have nDz : D ≠ z := ne_of_none hD5 hz
                have gz : Gr G H (upd Gi z (.tup [V.int mv, .int (i : Nat), .int (p : Nat), .int tm])) (upd H5 z (.tup [V.int mv, .int (i : Nat), .int (p : Nat), .int tm])) := g5.fr hz
                have gzn : Gi z = none := g5.sub.free hz
                have hal : acc.length = rows.length := hacc.length
                refine ⟨D, acc, .ref z, rfl, rfl, by rw [upd_ne nDz]; exact hD5, small1000 (by omega), _, _, _, _, _, _, _, _, upd Gi z (.tup [V.int mv, .int (i : Nat), .int (p : Nat), .int tm]), acc ++ [.ref z], rows ++ [.tuple [.int mv, .int (i : Nat), .int (p : Nat), .int tm]], ms ++ [mv], rfl, gz.set hD (by rw [upd_ne nDz]; exact gDi), s2.trans (same_upd gzn), upd_same, by rw [upd_ne nDz]; exact gDi, dq_snoc (hacc.of (same_upd gzn)) (newT gzn (.cons (.int _) (.three (.int _) (.int _) (.int _)))), by simp [hrm], by simp; omega, ?_, fun j m hj => ?_⟩
                · rw [em, ← hmv] at hms'
                  rw [List.append_assoc]
                  exact hms'
                · by_cases hjl : j < ms.length
                  · rw [List.getElem?_append_left hjl] at hj
                    rw [List.getElem?_append_left (by omega)]
                    exact hrows j m hj
                  · rw [List.getElem?_append_right (by omega)] at hj
                    rw [List.getElem?_append_right (by omega)]
                    have e0 : j - ms.length = 0 := by
                      cases q : j - ms.length with
                      | zero => rfl
                      | succ n => rw [q] at hj; simp at hj
                    rw [e0] at hj
                    have : m = mv := by simpa using hj.symm
                    rw [hrm, e0, this]
                    exact ⟨_, rfl⟩
              refine ⟨_, rfl, _, rfl, _, _, rfl, rfl, _, rfl, ?_⟩
              refine iteB (fun h => ?_) fun h => ?_
              · have hlt : tickAt R p - tickAt R i < tm := of_decide_eq_true h
                refine ⟨_, rfl, _, _, rfl, rfl, _, rfl, _, _, rfl, rfl, _, _, rfl, rfl, ⟨by decide, by decide +kernel⟩, ?_⟩
                have ediv : (tm - 1 - (tickAt R p - tickAt R i)) / 2 = (tm - 1 - (tickAt R p - tickAt R i)).fdiv 2 := by
                  rw [Int.fdiv_eq_ediv_of_nonneg _ (by decide)]
                have z := fin ((tm - 1 - (tickAt R p - tickAt R i)) / 2) (by rw [if_pos hlt, ediv])
                exact ⟨_, rfl, .inl ⟨rfl, acc, sqL (s5 _ _ hDT)⟩, _, rfl, _, rfl, _, rfl, _, rfl, z⟩
              · have hlt : ¬ tickAt R p - tickAt R i < tm := of_decide_eq_false h
                refine ⟨_, rfl, _, rfl, _, _, rfl, rfl, _, _, rfl, rfl, ⟨by decide, by decide +kernel⟩, ?_⟩
                have ediv : (tickAt R p - tickAt R i - tm) / 2 = (tickAt R p - tickAt R i - tm).fdiv 2 := by
                  rw [Int.fdiv_eq_ediv_of_nonneg _ (by decide)]
                have z := fin ((tickAt R p - tickAt R i - tm) / 2) (by rw [if_neg hlt, ediv])
                exact ⟨_, rfl, .inl ⟨rfl, acc, sqL (s5 _ _ hDT)⟩, _, rfl, _, rfl, _, rfl, _, rfl, z⟩
            · have hkk : ¬ keyAt (R.map Ev.stp) p = keyAt (R.map Ev.stp) i := by simpa using h
              rw [if_neg hkk] at em
              exact skip H5 _ _ s5 em
    · obtain ⟨v3, v4, v5, v6, v7, v8, v9, v10, Gi, acc, rows, ms, rfl, g, s2, hDi, gDi, hacc, hrm, hrl, hms, hrows⟩ := h
      have e1 : (mSteps L R).drop ss.length = [] := List.drop_eq_nil_of_le (by rw [hsl]; have := steps_len L R R 0 pl0; exact Nat.le_of_eq this)
      rw [e1] at hms
      have hms2 : ms = mMargins L R := by rw [← hms]; simp [enumL]
      refine ⟨_, rfl, k _ (upd Gi D (.lst acc)) _ rows (g.freeze hD hDi) (ls upd_same (hacc.of (same_upd gDi))) (by omega) ⟨ms, hms2, hrm, hrows⟩⟩
abbrev sslack : Stmt := top 59
abbrev Nslack : List PySem.Str := ["layout", "record", "row"]
abbrev Pslack : List PySem.Str := ["layout", "record"]
theorem scslack : FnScope Nslack Pslack (defScope sslack) := ⟨rfl, rfl, rfl, by decide +kernel, rfl, by decide +kernel, by decide +kernel⟩
theorem ok_slack {f : Addr} {fd : FuncData} (F : Fun K "slack" "slack" sslack f fd) (B : Bt mg) (c_require_layout : C8.Cal P w K mg base 5 "require_layout" sp_require_layout []) (c_require_record : C8.Cal P w K mg base 6 "require_record" sp_require_record []) (c_margins : C8.Cal P w K mg base 6 "margins" sp_margins []) : FnOk P w K mg base CX0 7 f fd Pslack sp_slack := by
  refine F.ok scslack (fun vs H Q E h => ?_) (fun cdv A outer s H vs Q E hr h => ?_)
  · obtain ⟨G, v, u, L, R, rfl, _⟩ := h
    rfl
  · obtain ⟨G, v, u, L, R, rfl, sG, hv, hL, hu, hR, k⟩ := h
    have nd := scslack.nd
    have hu64 := hr.units
    refine ⟨_, (pss_cons (ps_expr (C8.pe_c c_require_layout hr (by decide) rfl (pa_cons (pv 0) pa_nil)))
    (pss_cons (ps_expr (C8.pe_c c_require_record hr (by decide) rfl (pa_cons (pv 0) (pa_cons (pv 1) pa_nil))))
    (pss_one (ps_ret (pe_callBK (HT4.cr_minD rfl hu64) (by rfl) B.min (by decide +kernel) (pa_cons (pe_lc (own := [("row", 2)]) rfl nd (pi_list (C8.pe_c c_margins hr (by decide) rfl (pa_cons (pv 0) (pa_cons (pv 1) pa_nil)))) (blkOk_by (own := [("row", 2)]) (N := Nslack) (sc := defScope sslack) (by decide +kernel)) (fun _ _ _ _ _ => (pg_name (i := 2) nd rfl (Or.inl rfl))) (fun _ _ _ _ _ => pts_nil) (fun _ _ _ _ _ => (pe_ix ixtq (pv 2) pe_int (fun _ _ => rfl)))) pa_nil) (pk_cons pe_non pk_nil)))))), ?_⟩
    refine ⟨_, rfl, v, L, rfl, hv.of sG, hL, fun H1 s1 => ?_⟩
    refine ⟨_, rfl, _, rfl, v, u, L, R, rfl, (hv.of sG).of s1, hL, (hu.of sG).of s1, hR, fun H2 s2 => ?_⟩
    have g2 : Gr G H G H2 := ((Gr.refl sG).same s1).same s2
    refine ⟨_, rfl, _, rfl, G, v, u, L, R, rfl, g2.sub, hv, hL, hu, hR.keys, hR.len, fun y G3 H3 rows g3 d3 hrl hms => ?_⟩
    obtain ⟨ms, ems, elen, hrow⟩ := hms
    subst ems
    have g03 := g2.trans g3
    obtain ⟨ar, as, rfl, har, tas⟩ := d3.lstE
    have hal : as.length = rows.length := tas.length
    refine ⟨ar, rfl, ⟨_, sqL (g3.sub _ _ har)⟩, fun D hD => ?_⟩
    refine lcD (G := G) (G1 := G3) (fun i => ((mMargins L R)[i]?).map PyData.int) (walkL (K := K) (a := ar) (xs := as)) (by omega) g03 (fun Gi Hi g => g.keep _ _ (g3.sub _ _ har)) hD (fun i y Gi Hi H' Ok No hi g yy ok no => ?_) fun G4 H4 g4 g34 dq => ?_
    · obtain ⟨rfl, hy⟩ := yy
      obtain ⟨d, hd, dv⟩ := tas.getV hy
      have him : i < (mMargins L R).length := by omega
      have em : (mMargins L R)[i]? = some ((mMargins L R)[i]'him) := List.getElem?_eq_getElem him
      obtain ⟨r, er⟩ := hrow i _ em
      rw [er] at hd
      cases hd
      obtain ⟨pr, zs, rfl, hpr, tz⟩ := dv.tupE
      obtain ⟨z0, zs', rfl, dz0, _⟩ := tz.consE
      obtain rfl := dz0.intE
      refine ⟨rfl, _, rfl, pr, _, _, _, rfl, rfl, g.keep _ _ (g3.sub _ _ hpr), atI_nat (j := 0) rfl, ok _ Gi _ _ (Gr.refl g.sub) (.int _) ?_⟩
      show ((mMargins L R)[i]?).map PyData.int = _
      rw [em]
      rfl
    · rw [hal, elen, made_map] at dq
      obtain ⟨D', rs, e2, hDs, trs⟩ := dq.lstE
      cases e2
      obtain rfl := dp_intsE trs
      obtain ⟨k1, k2⟩ := k H4 g4.keep
      exact ⟨D, mMargins L R, rfl, rfl, sqL (g4.sub _ _ hDs), k1, k2⟩
end
end HT7
end partW19
section partW20
set_option Elab.async false
set_option linter.all false
set_option maxRecDepth 100000
namespace HT7
open PySem PySem.Spec PyProof.Rows L2 HT5 HT6 HT4
open PySem.W (alike alikeAll dataLt AllAlike)
theorem exists_map {α β : Type} (f : β → α) : ∀ l : List α, (∀ x ∈ l, ∃ y, x = f y) → ∃ r : List β, l = r.map f
  | [], _ => ⟨[], rfl⟩
  | x :: l, h => by
    obtain ⟨y, hy⟩ := h x List.mem_cons_self
    obtain ⟨r, hr⟩ := exists_map f l fun z hz => h z (List.mem_cons_of_mem _ hz)
    exact ⟨y :: r, by rw [hy, hr]; rfl⟩
theorem lt_list (a b : List PyData) : dataLt (.list a) (.list b) = dataLt (.tuple a) (.tuple b) := by
  simp only [dataLt, PySem.W.keyToks]
section
variable {P : Program} {w : World} {K : PySem.W.Frag} {mg : Str → Option Value} {base : Heap}
abbrev slate_results : Stmt := top 54
abbrev Nlate_results : List PySem.Str := ["layout", "record", "keys", "late", "rows", "row", "least", "outputs", "delays"]
abbrev Plate_results : List PySem.Str := ["layout", "record", "keys", "late"]
theorem sclate_results : FnScope Nlate_results Plate_results (defScope slate_results) := ⟨rfl, rfl, rfl, by decide +kernel, rfl, by decide +kernel, by decide +kernel⟩
theorem ok_late_results {f : Addr} {fd : FuncData} (F : Fun K "late_results" "late_results" slate_results f fd) (B : Bt mg) (c_require_arguments : C8.Cal P w K mg base 7 "require_arguments" sp_require_arguments []) (c_arrivals : C8.Cal P w K mg base 10 "arrivals" sp_arrivals []) : FnOk P w K mg base CX0 11 f fd Plate_results sp_late_results := by
  refine F.ok sclate_results (fun vs H Q E h => ?_) (fun cdv A outer s H vs Q E hr h => ?_)
  · obtain ⟨G, v, u, x, L, R, half, late, rfl, _⟩ := h
    rfl
  · obtain ⟨G, v, u, x, L, R, half, late, rfl, sG, a, hcnt, k⟩ := h
    have nd := sclate_results.nd
    have hu64 := hr.units
    refine ⟨_, (pss_cons (ps_expr (C8.pe_c c_require_arguments hr (by decide) rfl (pa_cons (pv 0) (pa_cons (pv 1) (pa_cons (pv 2) (pa_cons (pv 3) pa_nil))))))
    (pss_cons (ps_set (i := 4) nd rfl (Or.inl rfl) (C8.pe_c c_arrivals hr (by decide) rfl (pa_cons (pv 0) (pa_cons (pv 1) (pa_cons (pv 2) pa_nil)))))
    (pss_one (ps_ret (pe_lc (own := [("row", 5)]) rfl nd (pi_list (pe_callB (HT4.cr_sortSN rfl hu64) (by rfl) B.sorted (by decide +kernel) (pa_cons (HT4.pe_scN (own := [("least", 6), ("outputs", 7), ("delays", 8)]) rfl hu64 nd (pi_list (pv 4)) (blkOk_by (own := [("least", 6), ("outputs", 7), ("delays", 8)]) (N := Nlate_results) (sc := defScope slate_results) (by decide +kernel)) (fun _ _ _ _ _ => (pg_tupq (n := 3) rfl (pgs_cons (pg_name (i := 6) nd rfl (Or.inl rfl)) (pgs_cons (pg_name (i := 7) nd rfl (Or.inl rfl)) (pgs_cons (pg_name (i := 8) nd rfl (Or.inl rfl)) pgs_nil))))) (fun _ _ _ _ _ => (pts_one (pt_cmpR op_le (pv 6) (pv 3) (by first | exact nomark _ | rfl)))) (fun _ _ _ _ _ => (pe_callTy tupq (by rfl) B.tuple (by decide +kernel) (pa_cons (pv 7) pa_nil)))) pa_nil))) (blkOk_by (own := [("row", 5)]) (N := Nlate_results) (sc := defScope slate_results) (by decide +kernel)) (fun _ _ _ _ _ => (pg_name (i := 5) nd rfl (Or.inl rfl))) (fun _ _ _ _ _ => pts_nil) (fun _ _ _ _ _ => (pe_callTy listq (by rfl) B.list (by decide +kernel) (pa_cons (pv 5) pa_nil)))))))), ?_⟩
    refine ⟨_, rfl, _, rfl, _, rfl, _, rfl, v, u, x, L, R, half, late, rfl, a.dv.of sG, a.hL, a.du.of sG, a.hR, a.R8, a.dx.of sG, a.hh, a.hl, a.l0, a.l9, fun H1 s1 => ?_⟩
    have g1 : Gr G H G H1 := (Gr.refl sG).same s1
    refine ⟨_, rfl, _, rfl, _, rfl, G, v, u, x, L, R, half, rfl, g1.sub, a.dv, a.hL, a.du, a.hR.keys, a.R8, a.dx, fun y G2 H2 g2 d2 => ?_⟩
    have g02 := g1.trans g2
    obtain ⟨ar, as, rfl, har, tas⟩ := d2.lstE
    have hal : as.length = (mArrivals L R half).length := by rw [tas.length, List.length_map]
    refine ⟨_, rfl, ar, rfl, ⟨_, sqL (g2.sub _ _ har)⟩, fun D hD => ?_⟩
    have gD2 : G2 D = none := g2.sub.free hD
    refine sc_it (K := K) (wo := w) (walkL (K := K) (a := ar) (xs := as)) (fun i Hi => ∃ Gi Lk, Gr G2 H2 Gi Hi ∧ Hi D = some (SetNO w D Lk) ∧ Gi D = none ∧ (∀ q ∈ Lk, ∃ o, q.2 = outsK o ∧ Dq Gi (.ref q.1) (.tuple (o.map outD)) ∧ ∃ b ∈ mArrivals L R half, b.least ≤ late ∧ b.outs = o) ∧ (∀ j, j < i → ∀ b, (mArrivals L R half)[j]? = some b → b.least ≤ late → outsK b.outs ∈ Lk.map (·.2)) ∧ Lk.length ≤ i)
      ⟨G2, [], (Gr.refl g02.sub).tmp hD, upd_same, gD2, (fun _ h => by cases h), (fun j h => by omega), Nat.le_refl _⟩ (fun i Hi _ h => ?_) (fun i y Hi H' hi h yy => ?_) fun Hn h => ?_
    · obtain ⟨Gi, _, g, _⟩ := h
      exact g.keep _ _ (g2.sub _ _ har)
    · obtain ⟨Gi, Lk, g, hDi, gDi, hks, hin, hlen⟩ := h
      obtain ⟨rfl, hy⟩ := yy
      obtain ⟨q, eq, dv⟩ := getV_map tas hy
      obtain ⟨pq, y1, y2, rfl, hpq, dy1, dy2⟩ := arr_parts dv
      have hpq' : H' pq = some (.tup [.int q.least, y1, y2]) := g.keep _ _ (g2.sub _ _ hpq)
      obtain ⟨po, ys, rfl, hpo, tys⟩ := Dq.lstE dy1
      refine ⟨pq, _, rfl, hpq', rfl, _, _, rfl, _, _, rfl, _, _, rfl, rfl, rfl, ?_⟩
      refine ⟨_, rfl, _, rfl, _, _, rfl, rfl, _, rfl, iteB (fun h => ?_) fun h => ?_⟩
      · have hle : q.least ≤ late := of_decide_eq_true h
        refine ⟨_, rfl, po, ys, rfl, g.keep _ _ (g2.sub _ _ hpo), fun l hl => ?_⟩
        have gl : Gr G2 H2 (upd Gi l (.tup ys)) (upd H' l (.tup ys)) := g.fr hl
        have gil : Gi l = none := g.sub.free hl
        have nDl : D ≠ l := ne_of_none hDi hl
        have dkey : Dq (upd Gi l (.tup ys)) (.ref l) (.tuple (q.outs.map outD)) := newT gil (tys.of g.ext)
        have hDl : (upd H' l (.tup ys)) D = some (SetNO w D Lk) := by rw [upd_ne nDl]; exact hDi
        refine ⟨(l, outsK q.outs), Lk, rfl, ⟨?_, outsK_depth _⟩, fun k2 hk2 => ?_, hDl, by omega, fun L' e1 e2 => ?_⟩
        · show Dp K (upd H' l (.tup ys)) (.ref l) (outsK q.outs).data
          rw [outsK_data]
          exact (dkey.of gl.sub).dp
        · obtain ⟨o, eo, dqo, _⟩ := hks k2 hk2
          refine ⟨?_, by rw [eo]; exact outsK_depth _⟩
          rw [eo, outsK_data]
          exact ((dqo.of (same_upd gil)).of gl.sub).dp
        · have hmem : ∀ k2, k2 ∈ L' → k2 = (l, outsK q.outs) ∨ k2 ∈ Lk := fun k2 hk2 => by
            by_cases hin2 : outsK q.outs ∈ Lk.map (·.2)
            · rw [e1 hin2] at hk2; exact .inr hk2
            · exact List.mem_cons.mp ((e2 hin2).mem_iff.mp hk2)
          have hsub : ∀ kk, kk ∈ Lk.map (·.2) → kk ∈ L'.map (·.2) := fun kk hkk => by
            by_cases hin2 : outsK q.outs ∈ Lk.map (·.2)
            · rw [e1 hin2]; exact hkk
            · obtain ⟨k2, hk2, e⟩ := List.mem_map.mp hkk
              exact List.mem_map.mpr ⟨k2, (e2 hin2).mem_iff.mpr (List.mem_cons_of_mem _ hk2), e⟩
          refine ⟨upd Gi l (.tup ys), L', gl.set hD (by rw [upd_ne nDl]; exact gDi), upd_same, by rw [upd_ne nDl]; exact gDi, fun k2 hk2 => ?_, fun j hj b hb hble => ?_, ?_⟩
          · rcases hmem k2 hk2 with rfl | z
            · exact ⟨q.outs, rfl, dkey, q, List.mem_of_getElem? eq, hle, rfl⟩
            · obtain ⟨o, eo, dqo, hex⟩ := hks k2 z
              exact ⟨o, eo, dqo.of (same_upd gil), hex⟩
          · by_cases hji : j < i
            · exact hsub _ (hin j hji b hb hble)
            · obtain rfl : j = i := by omega
              rw [eq] at hb
              obtain rfl := Option.some.inj hb
              by_cases hin2 : outsK q.outs ∈ Lk.map (·.2)
              · exact hsub _ hin2
              · exact List.mem_map.mpr ⟨(l, outsK q.outs), (e2 hin2).mem_iff.mpr List.mem_cons_self, rfl⟩
          · by_cases hin2 : outsK q.outs ∈ Lk.map (·.2)
            · rw [e1 hin2]; omega
            · rw [(e2 hin2).length_eq, List.length_cons]; omega
      · have hgt : ¬ q.least ≤ late := of_decide_eq_false h
        refine ⟨Gi, Lk, g, hDi, gDi, hks, fun j hj b hb hble => ?_, by omega⟩
        by_cases hji : j < i
        · exact hin j hji b hb hble
        · obtain rfl : j = i := by omega
          rw [eq] at hb
          obtain rfl := Option.some.inj hb
          exact absurd hble hgt
    · obtain ⟨Gn, Lk, gn, hDn, gDn, hks, hin, hlen⟩ := h
      refine ⟨D, Lk, rfl, hDn, fun q hq => ?_, fun q hq => ?_, fun d hd d' hd' => ?_, fun L' p perm hnd hl64 hord hp => ?_⟩
      · obtain ⟨o, eo, dqo, _⟩ := hks q hq
        refine ⟨?_, by rw [eo]; exact outsK_depth _⟩
        rw [eo, outsK_data]
        exact (dqo.of gn.sub).dp
      · obtain ⟨o, eo, _⟩ := hks q hq
        exact ⟨_, eo⟩
      · obtain ⟨q, hq, rfl⟩ := List.mem_map.mp hd
        obtain ⟨q', hq', rfl⟩ := List.mem_map.mp hd'
        obtain ⟨o, eo, _⟩ := hks q hq
        obtain ⟨o', eo', _⟩ := hks q' hq'
        rw [eo, eo', outsK_data, outsK_data]
        exact outs_alike o o'
      · obtain ⟨rs, ers⟩ := exists_map outsK (L'.map (·.2)) (fun x hx => by
          obtain ⟨q, hq, rfl⟩ := List.mem_map.mp hx
          obtain ⟨o, eo, _⟩ := hks q (perm.mem_iff.mp hq)
          exact ⟨o, eo⟩)
        have hrl : rs.length = L'.length := by
          have := congrArg List.length ers
          simpa using this.symm
        have gp : Gr G2 H2 Gn (upd Hn p (.lst (L'.map fun q => V.ref q.1))) := gn.tmp hp
        have hpp : (upd Hn p (.lst (L'.map fun q => V.ref q.1))) p = some (.lst (L'.map fun q => V.ref q.1)) := upd_same
        generalize upd Hn p (.lst (L'.map fun q => V.ref q.1)) = Hp1 at gp hpp ⊢
        have g0p := g02.trans gp
        refine ⟨p, rfl, ⟨_, sqL hpp⟩, fun D5 hD5 => ?_⟩
        refine lcD (G := G) (G1 := Gn) (fun i => (rs[i]?).map outsD) (walkL (K := K) (a := p) (xs := L'.map fun q => V.ref q.1)) (by rw [List.length_map]; omega) g0p (fun Gi Hi g => g.keep _ _ hpp) hD5 (fun i y Gi Hi H' Ok No hi g yy ok no => ?_) fun G6 H6 g6 g6' dq => ?_
        · obtain ⟨rfl, hy⟩ := yy
          rw [List.length_map] at hi
          have eq : L'[i]? = some (L'[i]'hi) := List.getElem?_eq_getElem hi
          rw [List.getElem?_map, eq] at hy
          obtain rfl := (Option.some.inj hy).symm
          have er : rs[i]? = some (rs[i]'(by omega)) := List.getElem?_eq_getElem _
          have ek : (L'[i]'hi).2 = outsK (rs[i]'(by omega)) := by
            have := congrArg (fun l => l[i]?) ers
            simp only [List.getElem?_map, eq, er] at this
            exact Option.some.inj this
          obtain ⟨o, eo, dqo, _⟩ := hks _ (perm.mem_iff.mp (List.getElem_mem hi))
          have eoo : o = rs[i]'(by omega) := outsK_inj (eo.symm.trans ek)
          obtain ⟨pz, zs, e3, hpz, tz⟩ := dqo.tupE
          cases e3
          refine ⟨rfl, _, rfl, _, zs, rfl, .inr ((gp.trans g).sub _ _ (g.ext _ _ hpz)), fun l hl => ?_⟩
          refine ok _ (upd Gi l (.lst zs)) _ (outsD (rs[i]'(by omega))) ((Gr.refl g.sub).fr hl) ?_ ?_
          · rw [← eoo]
            exact newL (g.sub.free hl) (tz.of g.ext)
          · show (rs[i]?).map outsD = _
            rw [er]
            rfl
        · rw [List.length_map, ← hrl, made_map] at dq
          refine k _ G6 H6 rs g6 dq ?_ ?_ (by omega) fun o => ?_
          · have h2 : (rs.map outsK).Nodup := by rw [← ers]; exact hnd
            exact (List.pairwise_map.mp h2).imp fun h e => h (by rw [e])
          · have h2 : (L'.map (·.2)).Pairwise fun a b => dataLt b.data a.data = false := List.pairwise_map.mpr hord
            rw [ers] at h2
            refine (List.pairwise_map.mp h2).imp fun {a b} h => ?_
            rw [outsK_data, outsK_data] at h
            show dataLt (.list _) (.list _) = false
            rw [lt_list]
            exact h
          · have h3 : o ∈ rs ↔ outsK o ∈ Lk.map (·.2) := by
              rw [← (perm.map (·.2)).mem_iff, ers]
              constructor
              · intro h; exact List.mem_map.mpr ⟨o, h, rfl⟩
              · intro h
                obtain ⟨o', h', e⟩ := List.mem_map.mp h
                rw [← outsK_inj e]; exact h'
            rw [h3]
            constructor
            · intro h
              obtain ⟨q, hq, e⟩ := List.mem_map.mp h
              obtain ⟨o', eo, _, b, hb, hble, hbo⟩ := hks q hq
              exact ⟨b, hb, hble, by rw [hbo]; exact outsK_inj (eo.symm.trans e)⟩
            · rintro ⟨b, hb, hble, rfl⟩
              obtain ⟨j, hj, e⟩ := List.mem_iff_getElem.mp hb
              exact hin j (by omega) b (by rw [List.getElem?_eq_getElem hj, e]) hble
end
end HT7
end partW20
section partW21
set_option Elab.async false
set_option linter.all false
set_option maxRecDepth 100000
namespace HT8
open PySem PySem.Spec PyProof.Rows L2 HT5 HT6 HT7
/-! ### the law's draws -/
structure Po where
  a : Int
  b : Int
  c : Int
  deriving DecidableEq
def mixA (b c : Int) : Int := (b + 104729 * c) ^ 3 % 618970019642690137449562111
def mixB (x c : Int) : Int := (x + 1299709 * c) ^ 3 % 162259276829213363391578010288127
def mDraw (p : Po) (m : Int) : Int × Po :=
  if 0 < p.a then (p.a % m, { p with a := p.a / m }) else (mixB (mixA p.b (p.c + 1)) (p.c + 1) / 4096 % m, { p with c := p.c + 1 })
/-- q comes of p by at most n draws -/
structure Le (p q : Po) (n : Int) : Prop where
  a : 0 ≤ p.a → 0 ≤ q.a
  b : q.b = p.b
  c0 : p.c ≤ q.c
  c1 : q.c ≤ p.c + n
theorem Le.refl (p : Po) : Le p p 0 := ⟨id, rfl, Int.le_refl _, by omega⟩
theorem Le.trans {p q r : Po} {n m : Int} (h : Le p q n) (g : Le q r m) : Le p r (n + m) := ⟨fun z => g.a (h.a z), g.b.trans h.b, by have := h.c0; have := g.c0; omega, by have := h.c1; have := g.c1; omega⟩
theorem Le.mono {p q : Po} {n m : Int} (h : Le p q n) (e : n ≤ m) : Le p q m := ⟨h.a, h.b, h.c0, by have := h.c1; omega⟩
theorem draw_le (p : Po) {m : Int} (hm : 0 < m) : Le p (mDraw p m).2 1 := by
  unfold mDraw
  split
  · exact ⟨fun h => Int.ediv_nonneg h (by omega), rfl, Int.le_refl _, by show p.c ≤ p.c + 1; omega⟩
  · exact ⟨id, rfl, by show p.c ≤ p.c + 1; omega, Int.le_refl _⟩
theorem draw_in (p : Po) {m : Int} (hm : 0 < m) : 0 ≤ (mDraw p m).1 ∧ (mDraw p m).1 < m := by
  unfold mDraw
  split
  · exact ⟨Int.emod_nonneg _ (by omega), Int.emod_lt_of_pos _ hm⟩
  · exact ⟨Int.emod_nonneg _ (by omega), Int.emod_lt_of_pos _ hm⟩
/-- what the draws lean on -/
structure PoOk (p : Po) : Prop where
  a : 0 ≤ p.a
  b0 : 0 ≤ p.b
  b1 : p.b < 2 ^ 62
  c0 : 0 ≤ p.c
  c1 : p.c ≤ 2 ^ 40
def poV (p : Po) : HO := .lst [.int p.a, .int p.b, .int p.c]
theorem Le.ok {p q : Po} {n : Int} (h : Le p q n) (o : PoOk p) (hc : p.c + n ≤ 2 ^ 40) : PoOk q := ⟨h.a o.a, by rw [h.b]; exact o.b0, by rw [h.b]; exact o.b1, by have := h.c0; have := o.c0; omega, by have := h.c1; omega⟩
def sp_law_draw : Sp := fun vs H Q _ => ∃ (a : Addr) (p : Po) (m : Int), vs = [.ref a, .int m] ∧ H a = some (poV p) ∧ PoOk p ∧ 0 < m ∧ m < 2 ^ 40 ∧ Q (.int (mDraw p m).1) (upd H a (poV (mDraw p m).2))
def cellAt (ns : List Int) (at_ : Nat) : Int := ns.getD at_ 0
def mPool (ns : List Int) (at_ : Nat) : Po := ⟨max 0 (((cellAt ns at_).natAbs : Int) - 1000000000000000000), cellAt ns at_ % 2305843009213693951 + 7919 * ((at_ : Int) + 1), 0⟩
def sp_law_pool (K : PySem.W.Frag) : Sp := fun vs H Q _ => ∃ (a : Addr) (ns : List Int) (at_ : Nat), vs = [.ref a, .int (at_ : Nat)] ∧ SqL K H a (ns.map V.int) ∧ at_ ≤ 2 ∧ ns.length ≤ 63 ∧ ∀ l, H l = none → Q (.ref l) (upd H l (poV (mPool ns at_)))
theorem cube_lt {i : Int} (h0 : 0 ≤ i) (h : i < 2 ^ 150) : HT1.CCube i 3 := ⟨rfl, by omega⟩
section
variable {P : Program} {w : World} {K : PySem.W.Frag} {mg : Str → Option Value} {base : Heap}
abbrev s_law_pool : Stmt := top 61
abbrev N_law_pool : List PySem.Str := ["_law_script", "_law_at", "_law_cell"]
abbrev P_law_pool : List PySem.Str := ["_law_script", "_law_at"]
theorem sc_law_pool : FnScope N_law_pool P_law_pool (defScope s_law_pool) := ⟨rfl, rfl, rfl, by decide +kernel, rfl, by decide +kernel, by decide +kernel⟩
theorem ok_law_pool {f : Addr} {fd : FuncData} (F : Fun K "_law_pool" "_law_pool" s_law_pool f fd) (B : Bt mg) : FnOk P w K mg base CX0 1 f fd P_law_pool (sp_law_pool K) := by
  refine F.ok sc_law_pool (fun vs H Q E h => ?_) (fun cdv A outer s H vs Q E hr h => ?_)
  · obtain ⟨a, ns, at_, rfl, _⟩ := h
    rfl
  · obtain ⟨a, ns, at_, rfl, ha, hat, hns, k⟩ := h
    have nd := sc_law_pool.nd
    refine ⟨_, (pss_cons (ps_set (i := 2) nd rfl (Or.inl rfl) (pe_ifExp (pt_cmpR op_lt (pv 1) (pe_callB call_len_seq (by rfl) B.len (by decide +kernel) (pa_cons (pv 0) pa_nil)) (by first | exact nomark _ | rfl)) (pe_ix ix_list (pv 0) (pv 1) (fun _ _ => rfl)) pe_int))
    (pss_one (ps_ret (pe_lst (pa_cons (pe_callB (call_max2 rfl) (by rfl) B.max (by decide +kernel) (pa_cons pe_int (pa_cons (pe_op op_sub (pe_callB call_abs (by rfl) B.abs (by decide +kernel) (pa_cons (pv 2) pa_nil)) (pe_op op_pow pe_int pe_int)) pa_nil))) (pa_cons (pe_op op_add (pe_op op_mod (pv 2) pe_int) (pe_op op_mulW pe_int (pe_op op_add (pv 1) pe_int))) (pa_cons pe_int pa_nil))))))), ?_⟩
    have fin : ∀ cell : Int, cell = cellAt ns at_ → [V.int (if ((if cell < 0 then -cell else cell) - (10 : Int) ^ (18 : Int).toNat) > 0 then ((if cell < 0 then -cell else cell) - (10 : Int) ^ (18 : Int).toNat) else 0), .int (cell % 2305843009213693951 + 7919 * ((at_ : Int) + 1)), .int 0] = [V.int (mPool ns at_).a, .int (mPool ns at_).b, .int (mPool ns at_).c] := fun cell e => by
      subst e
      have e1 : (if cellAt ns at_ < 0 then -cellAt ns at_ else cellAt ns at_) = ((cellAt ns at_).natAbs : Int) := by split <;> omega
      have e2 : (10 : Int) ^ (18 : Int).toNat = 1000000000000000000 := by decide +kernel
      rw [e1, e2]
      have e3 : (if ((cellAt ns at_).natAbs : Int) - 1000000000000000000 > 0 then ((cellAt ns at_).natAbs : Int) - 1000000000000000000 else 0) = max 0 (((cellAt ns at_).natAbs : Int) - 1000000000000000000) := by
        split <;> omega
      rw [e3]
      rfl
    refine ⟨_, rfl, _, rfl, a, _, rfl, .inl ha, _, _, rfl, rfl, _, rfl, iteB (fun h => ?_) fun h => ?_⟩
    · have hlt : at_ < ns.length := by
        have := of_decide_eq_true h
        rw [List.length_map] at this
        omega
      refine ⟨_, rfl, _, rfl, a, _, _, V.int (cellAt ns at_), rfl, rfl, ha, atI_nat (int_at hlt), ?_⟩
      refine ⟨_, rfl, _, rfl, _, _, rfl, rfl, ⟨by decide, by decide, by decide⟩, _, _, rfl, rfl, _, _, rfl, ?_⟩
      refine ⟨_, rfl, _, _, rfl, rfl, (by show (0 : Int) < 2305843009213693951; decide), _, rfl, _, _, rfl, rfl, _, _, rfl, rfl, wide_mul (a := 20) (b := 20) (by decide) (by show ((at_ : Int) + 1).natAbs < 2 ^ 20; omega) (by decide) (by decide) (by decide), _, _, rfl, rfl, ?_⟩
      refine ⟨by show 3 ≤ sizeLine; decide, fun l hl => ?_⟩
      rw [fin _ rfl]
      exact k l hl
    · have hge : ¬ at_ < ns.length := by
        have := of_decide_eq_false h
        rw [List.length_map] at this
        omega
      have ec : (0 : Int) = cellAt ns at_ := by
        unfold cellAt
        rw [List.getD_eq_getElem?_getD, List.getElem?_eq_none (by omega)]
        rfl
      refine ⟨_, rfl, _, rfl, _, _, rfl, rfl, ⟨by decide, by decide, by decide⟩, _, _, rfl, rfl, _, _, rfl, ?_⟩
      refine ⟨_, rfl, _, _, rfl, rfl, (by show (0 : Int) < 2305843009213693951; decide), _, rfl, _, _, rfl, rfl, _, _, rfl, rfl, wide_mul (a := 20) (b := 20) (by decide) (by show ((at_ : Int) + 1).natAbs < 2 ^ 20; omega) (by decide) (by decide) (by decide), _, _, rfl, rfl, ?_⟩
      refine ⟨by show 3 ≤ sizeLine; decide, fun l hl => ?_⟩
      rw [fin _ ec]
      exact k l hl
abbrev s_law_draw : Stmt := top 62
abbrev N_law_draw : List PySem.Str := ["_law_pool_here", "_law_many", "_law_drawn", "_law_mixed"]
abbrev P_law_draw : List PySem.Str := ["_law_pool_here", "_law_many"]
theorem sc_law_draw : FnScope N_law_draw P_law_draw (defScope s_law_draw) := ⟨rfl, rfl, rfl, by decide +kernel, rfl, by decide +kernel, by decide +kernel⟩
theorem ok_law_draw {f : Addr} {fd : FuncData} (F : Fun K "_law_draw" "_law_draw" s_law_draw f fd) : FnOk P w K mg base CX0 1 f fd P_law_draw sp_law_draw := by
  refine F.ok sc_law_draw (fun vs H Q E h => ?_) (fun cdv A outer s H vs Q E hr h => ?_)
  · obtain ⟨a, p, m, rfl, _⟩ := h
    rfl
  · obtain ⟨a, p, m, rfl, ha, hp, hm, hm2, k⟩ := h
    have nd := sc_law_draw.nd
    refine ⟨_, (pss_cons (ps_if (pt_cmpR op_gt (pe_ix ixlq (pv 0) pe_int (fun _ _ => rfl)) pe_int (by first | exact nomark _ | rfl)) (pss_cons (ps_set (i := 2) nd rfl (Or.inl rfl) (pe_op op_mod (pe_ix ixlq (pv 0) pe_int (fun _ _ => rfl)) (pv 1)))
    (pss_cons (ps_asg (pe_op op_fdivW (pe_ix ixlq (pv 0) pe_int (fun _ _ => rfl)) (pv 1)) (pg_sub (pv 0) pe_int set_list))
    (pss_one (ps_ret (pv 2))))) pss_nil)
    (pss_cons (ps_asg (pe_op op_add (pe_ix ixlq (pv 0) pe_int (fun _ _ => rfl)) pe_int) (pg_sub (pv 0) pe_int set_list))
    (pss_cons (ps_set (i := 3) nd rfl (Or.inl rfl) (pe_op op_mod (pe_op HT1.op_cube (pe_op op_add (pe_ix ixlq (pv 0) pe_int (fun _ _ => rfl)) (pe_op op_mulW pe_int (pe_ix ixlq (pv 0) pe_int (fun _ _ => rfl)))) pe_int) pe_int))
    (pss_cons (ps_set (i := 3) nd rfl (Or.inl rfl) (pe_op op_mod (pe_op HT1.op_cube (pe_op op_add (pv 3) (pe_op op_mulW pe_int (pe_ix ixlq (pv 0) pe_int (fun _ _ => rfl)))) pe_int) pe_int))
    (pss_one (ps_ret (pe_op op_mod (pe_op op_fdivW (pv 3) pe_int) (pv 1)))))))), ?_⟩
    have b0 := hp.b0
    have b1 := hp.b1
    have c0 := hp.c0
    have c1 := hp.c1
    have a0 := hp.a
    refine ⟨_, rfl, a, _, _, _, rfl, rfl, ha, atI_nat (j := 0) rfl, _, _, rfl, rfl, _, rfl, iteB (fun h => ?_) fun h => ?_⟩
    · have hpos : 0 < p.a := of_decide_eq_true h
      unfold mDraw at k
      rw [if_pos hpos] at k
      refine ⟨_, rfl, a, _, _, _, rfl, rfl, ha, atI_nat (j := 0) rfl, _, rfl, _, _, rfl, rfl, hm, ?_⟩
      refine ⟨_, rfl, a, _, _, _, rfl, rfl, ha, atI_nat (j := 0) rfl, _, rfl, _, _, rfl, rfl, wide_div (b := 41) hm (by omega) (by decide) (by decide), ?_⟩
      refine ⟨_, rfl, a, _, _, 0, rfl, rfl, ha, rfl, ?_⟩
      exact ⟨_, rfl, k⟩
    · have hneg : ¬ 0 < p.a := of_decide_eq_false h
      unfold mDraw at k
      rw [if_neg hneg] at k
      refine ⟨_, rfl, a, _, _, _, rfl, rfl, ha, atI_nat (j := 2) rfl, _, _, rfl, rfl, ?_⟩
      refine ⟨_, rfl, a, _, _, 2, rfl, rfl, ha, rfl, ?_⟩
      have ha2 : (upd H a (.lst [.int p.a, .int p.b, .int (p.c + 1)])) a = some (.lst [.int p.a, .int p.b, .int (p.c + 1)]) := upd_same
      have w1 : CMulW 104729 (p.c + 1) := wide_mul (a := 20) (b := 42) (by decide) (by omega) (by decide) (by decide) (by decide)
      refine ⟨_, rfl, a, _, _, _, rfl, rfl, ha2, atI_nat (j := 1) rfl, ?_⟩
      refine ⟨_, rfl, a, _, _, _, rfl, rfl, ha2, atI_nat (j := 2) rfl, _, _, rfl, rfl, w1, _, _, rfl, rfl, ?_⟩
      have x1 : 0 ≤ p.b + 104729 * (p.c + 1) ∧ p.b + 104729 * (p.c + 1) < 2 ^ 150 := by
        constructor <;> omega
      refine ⟨_, _, rfl, rfl, cube_lt x1.1 x1.2, _, _, rfl, rfl, (by show (0 : Int) < 618970019642690137449562111; decide), ?_⟩
      have y1 : 0 ≤ mixA p.b (p.c + 1) ∧ mixA p.b (p.c + 1) < 618970019642690137449562111 := ⟨Int.emod_nonneg _ (by decide), Int.emod_lt_of_pos _ (by decide)⟩
      have w2 : CMulW 1299709 (p.c + 1) := wide_mul (a := 21) (b := 42) (by decide) (by omega) (by decide) (by decide) (by decide)
      have x2 : 0 ≤ mixA p.b (p.c + 1) + 1299709 * (p.c + 1) ∧ mixA p.b (p.c + 1) + 1299709 * (p.c + 1) < 2 ^ 150 := by
        constructor <;> omega
      refine ⟨_, rfl, _, rfl, a, _, _, _, rfl, rfl, ha2, atI_nat (j := 2) rfl, _, _, rfl, rfl, w2, _, _, rfl, rfl, ?_⟩
      refine ⟨mixA p.b (p.c + 1) + 1299709 * (p.c + 1), 3, rfl, rfl, cube_lt x2.1 x2.2, _, _, rfl, rfl, (by show (0 : Int) < 162259276829213363391578010288127; decide), ?_⟩
      refine ⟨_, rfl, _, _, rfl, rfl, wide_div (b := 13) (by decide) (by decide) (by decide) (by decide), _, rfl, _, _, rfl, rfl, hm, ?_⟩
      exact k
end
end HT8
end partW21
section partW22
set_option Elab.async false
set_option linter.all false
set_option maxRecDepth 100000
namespace HT8
open PySem PySem.Spec PyProof.Rows L2 HT5 HT6 HT7
def codesL : List PySem.Str := ["a", "b", "x", "1", "ab", "z9"]
def rulesL : List PySem.Str := ["time", "time", "other", "within"]
def codeAt (d : Int) : PySem.Str := codesL.getD d.toNat "a"
def ruleAt (d : Int) : PySem.Str := rulesL.getD d.toNat "time"
def wordW (d : Int) (j : Int) : Wt := if d = 0 then .lay j else if d = 1 then .lock j else .once j
def actHold (p : Po) (deep : Nat) (o : PySem.Str) : Wt × Po :=
  if 1 < deep then
    if 0 < (mDraw p 3).1 then (.lay (1 + (mDraw (mDraw p 3).2 ((deep : Int) - 1)).1), (mDraw (mDraw p 3).2 ((deep : Int) - 1)).2)
    else (.code o, (mDraw p 3).2)
  else (.code o, p)
def actDual (p : Po) (deep : Nat) (top : Int) (c o : PySem.Str) : Ac × Po :=
  let h := actHold p deep o
  let d6 := mDraw h.2 top
  let d7 := mDraw d6.2 4
  (.dual c h.1 (1 + d6.1) (ruleAt d7.1), d7.2)
def actPlain (p : Po) (layer deep : Nat) (c : PySem.Str) : Ac × Po :=
  let d4 := mDraw p 7
  if 3 < d4.1 ∧ 1 < deep then (.w (wordW (d4.1 - 4) (1 + (mDraw d4.2 ((deep : Int) - 1)).1)), (mDraw d4.2 ((deep : Int) - 1)).2)
  else if d4.1 = 3 then (.non, d4.2)
  else if d4.1 = 2 ∧ 0 < layer then (.thr, d4.2)
  else (.w (.code c), d4.2)
def mAction (p : Po) (layer deep : Nat) (top often : Int) : Ac × Po :=
  let d1 := mDraw p 6
  let d2 := mDraw d1.2 6
  let d3 := mDraw d2.2 10
  if d3.1 < often then actDual d3.2 deep top (codeAt d1.1) (codeAt d2.1) else actPlain d3.2 layer deep (codeAt d1.1)
theorem atI_int {α : Type} {xs : List α} {d : Int} (h0 : 0 ≤ d) (h1 : d < xs.length) : atI xs d = xs[d.toNat]? := by
  unfold atI ixN
  rw [if_pos h0, if_pos h1]
  rfl
theorem codes_at {d : Int} (h : 0 ≤ d ∧ d < 6) : atI (codesL.map V.str) d = some (.str (codeAt d)) := by
  rw [atI_int h.1 (by show d < 6; exact h.2)]
  have : d = 0 ∨ d = 1 ∨ d = 2 ∨ d = 3 ∨ d = 4 ∨ d = 5 := by omega
  rcases this with rfl | rfl | rfl | rfl | rfl | rfl <;> rfl
theorem rules_at {d : Int} (h : 0 ≤ d ∧ d < 4) : atI (rulesL.map V.str) d = some (.str (ruleAt d)) := by
  rw [atI_int h.1 (by show d < 4; exact h.2)]
  have : d = 0 ∨ d = 1 ∨ d = 2 ∨ d = 3 := by omega
  rcases this with rfl | rfl | rfl | rfl <;> rfl
theorem code_ok (d : Int) : CodeOk (codeAt d) := by
  have h : ∀ c ∈ codesL, CodeOk c := by
    intro c hc
    simp only [codesL, List.mem_cons, List.not_mem_nil, or_false] at hc
    rcases hc with rfl | rfl | rfl | rfl | rfl | rfl <;> exact ⟨by decide +kernel, by decide +kernel, by decide +kernel⟩
  unfold codeAt
  rw [List.getD_eq_getElem?_getD]
  cases e : codesL[d.toNat]? with
  | none => exact h "a" (by simp [codesL])
  | some c => exact h c (List.mem_of_getElem? e)
theorem rule_ok (d : Int) : ruleAt d ∈ mRules := by
  have h : ∀ c ∈ rulesL, c ∈ mRules := by
    intro c hc
    simp only [rulesL, List.mem_cons, List.not_mem_nil, or_false] at hc
    rcases hc with rfl | rfl | rfl | rfl <;> simp [mRules]
  unfold ruleAt
  rw [List.getD_eq_getElem?_getD]
  cases e : rulesL[d.toNat]? with
  | none => exact h "time" (by simp [rulesL])
  | some c => exact h c (List.mem_of_getElem? e)
theorem hold_facts (p : Po) {deep : Nat} (hd : 1 ≤ deep) {o : PySem.Str} (ho : CodeOk o) : HoldOk deep (actHold p deep o).1 ∧ Le p (actHold p deep o).2 2 := by
  unfold actHold
  split
  · have l1 := draw_le p (m := 3) (by decide)
    split
    · have l2 := draw_le (mDraw p 3).2 (m := (deep : Int) - 1) (by omega)
      have i2 := draw_in (mDraw p 3).2 (m := (deep : Int) - 1) (by omega)
      exact ⟨⟨by show (1 : Int) ≤ 1 + _; omega, by show 1 + _ ≤ (deep : Int) - 1; omega⟩, l1.trans l2⟩
    · exact ⟨ho, l1.mono (by decide)⟩
  · exact ⟨ho, (Le.refl p).mono (by decide)⟩
theorem act_facts (p : Po) {layer deep : Nat} (hd : 1 ≤ deep) {top often : Int} (ht : 1 ≤ top) (ht2 : top ≤ 1000000) : AcOk layer deep (mAction p layer deep top often).1 ∧ Le p (mAction p layer deep top often).2 10 := by
  have l1 := draw_le p (m := 6) (by decide)
  have l2 := draw_le (mDraw p 6).2 (m := 6) (by decide)
  have l3 := draw_le (mDraw (mDraw p 6).2 6).2 (m := 10) (by decide)
  have l123 := (l1.trans l2).trans l3
  unfold mAction
  dsimp only
  generalize (mDraw (mDraw p 6).2 6).1 = x2
  generalize hq : (mDraw (mDraw (mDraw p 6).2 6).2 10).2 = q at l123 ⊢
  split
  · obtain ⟨h1, h2⟩ := hold_facts q hd (o := codeAt x2) (code_ok _)
    have l6 := draw_le (actHold q deep (codeAt x2)).2 (m := top) (by omega)
    have i6 := draw_in (actHold q deep (codeAt x2)).2 (m := top) (by omega)
    have l7 := draw_le (mDraw (actHold q deep (codeAt x2)).2 top).2 (m := 4) (by decide)
    exact ⟨⟨code_ok _, h1, by omega, by omega, rule_ok _⟩, (((l123.trans h2).trans l6).trans l7).mono (by decide)⟩
  · unfold actPlain
    dsimp only
    have l4 := draw_le q (m := 7) (by decide)
    split
    · rename_i hc
      have l5 := draw_le (mDraw q 7).2 (m := (deep : Int) - 1) (by omega)
      have i5 := draw_in (mDraw q 7).2 (m := (deep : Int) - 1) (by omega)
      refine ⟨?_, ((l123.trans l4).trans l5).mono (by decide)⟩
      unfold wordW
      split
      · exact ⟨by omega, by omega⟩
      · split
        · exact ⟨by omega, by omega⟩
        · exact ⟨by omega, by omega⟩
    · split
      · exact ⟨trivial, (l123.trans l4).mono (by decide)⟩
      · split
        · rename_i hc
          exact ⟨hc.2, (l123.trans l4).mono (by decide)⟩
        · exact ⟨code_ok _, (l123.trans l4).mono (by decide)⟩
/-- the state along the draws: only the pool changes -/
structure Dr (a : Addr) (G H Gi Hi : Hp) (p : Po) : Prop where
  g : GrP (fun b => b = a) G H Gi Hi
  ha : Hi a = some (poV p)
  ga : Gi a = none
theorem Dr.start {a : Addr} {G H : Hp} {p : Po} (s : Same G H) (ha : H a = some (poV p)) (ga : G a = none) : Dr a G H G H p := ⟨GrP.of (Gr.refl s), ha, ga⟩
theorem Dr.draw {a : Addr} {G H Gi Hi : Hp} {p q : Po} (d : Dr a G H Gi Hi p) : Dr a G H Gi (upd Hi a (poV q)) q := ⟨d.g.set rfl d.ga (by rw [d.ha]; exact nofun), upd_same, d.ga⟩
theorem Dr.gr {a : Addr} {G H Gi Hi G2 H2 : Hp} {p : Po} (d : Dr a G H Gi Hi p) (f : Gr Gi Hi G2 H2) : Dr a G H G2 H2 p := ⟨d.g.trans (GrP.of f), f.keep _ _ d.ha, f.out d.ha d.ga⟩
theorem Dr.then {a : Addr} {G H Gi Hi G2 H2 : Hp} {p q : Po} (d : Dr a G H Gi Hi p) (f : Dr a Gi Hi G2 H2 q) : Dr a G H G2 H2 q := ⟨d.g.trans f.g, f.ha, f.ga⟩
theorem Dr.sub {a : Addr} {G H Gi Hi : Hp} {p : Po} (d : Dr a G H Gi Hi p) : Same Gi Hi := d.g.sub
def sp_law_action : Sp := fun vs H Q _ => ∃ (G : Hp) (a : Addr) (p : Po) (layer deep : Nat) (top often : Int), vs = [.ref a, .int (layer : Nat), .int (deep : Nat), .int top, .int often] ∧ Same G H ∧ H a = some (poV p) ∧ G a = none ∧ PoOk p ∧ p.c + 10 ≤ 2 ^ 40 ∧ 1 ≤ deep ∧ deep ≤ 6 ∧ 1 ≤ top ∧ top ≤ 1000000 ∧
  ∀ v G' H', Dr a G H G' H' (mAction p layer deep top often).2 → Dq G' v (mAction p layer deep top often).1.d → Q v H'
section
variable {P : Program} {w : World} {K : PySem.W.Frag} {mg : Str → Option Value} {base : Heap}
abbrev s_law_action : Stmt := top 63
abbrev N_law_action : List PySem.Str := ["_law_pool_here", "_law_layer", "_law_deep", "_law_top", "_law_often", "_law_codes", "_law_code", "_law_other", "_law_hold", "_law_way"]
abbrev P_law_action : List PySem.Str := ["_law_pool_here", "_law_layer", "_law_deep", "_law_top", "_law_often"]
theorem sc_law_action : FnScope N_law_action P_law_action (defScope s_law_action) := ⟨rfl, rfl, rfl, by decide +kernel, rfl, by decide +kernel, by decide +kernel⟩
theorem ok_law_action {f : Addr} {fd : FuncData} (F : Fun K "_law_action" "_law_action" s_law_action f fd) (c__law_draw : C8.Cal P w K mg base 1 "_law_draw" sp_law_draw []) : FnOk P w K mg base CX0 2 f fd P_law_action sp_law_action := by
  refine F.ok sc_law_action (fun vs H Q E h => ?_) (fun cdv A outer s H vs Q E hr h => ?_)
  · obtain ⟨G, a, p, layer, deep, top, often, rfl, _⟩ := h
    rfl
  · obtain ⟨G, a, p, layer, deep, top, often, rfl, sG, ha, ga, hp, hpc, hd1, hd6, ht1, ht2, k⟩ := h
    have nd := sc_law_action.nd
    refine ⟨_, (pss_cons (ps_set (i := 5) nd rfl (Or.inl rfl) (pe_lst (pa_cons pe_str (pa_cons pe_str (pa_cons pe_str (pa_cons pe_str (pa_cons pe_str (pa_cons pe_str pa_nil))))))))
    (pss_cons (ps_par (i := 6) (j := 7) (by rfl) nd rfl rfl (by decide) rfl rfl (pa_cons (pe_ix ixlq (pv 5) (C8.pe_c c__law_draw hr (by decide) rfl (pa_cons (pv 0) (pa_cons pe_int pa_nil))) (fun _ _ => rfl)) (pa_cons (pe_ix ixlq (pv 5) (C8.pe_c c__law_draw hr (by decide) rfl (pa_cons (pv 0) (pa_cons pe_int pa_nil))) (fun _ _ => rfl)) pa_nil)) (by rfl))
    (pss_cons (ps_if (pt_cmpR op_lt (C8.pe_c c__law_draw hr (by decide) rfl (pa_cons (pv 0) (pa_cons pe_int pa_nil))) (pv 4) (by first | exact nomark _ | rfl)) (pss_cons (ps_set (i := 8) nd rfl (Or.inl rfl) (pe_tup (pa_cons pe_str (pa_cons (pv 7) pa_nil))))
    (C8.pss_cut (ps_if (PW.pt (pw_and (pt_cmpR op_gt (pv 2) pe_int (by first | exact nomark _ | rfl)) (pw_and1 (pt_cmpR op_gt (C8.pe_c c__law_draw hr (by decide) rfl (pa_cons (pv 0) (pa_cons pe_int pa_nil))) pe_int (by first | exact nomark _ | rfl))))) (pss_one (ps_set (i := 8) nd rfl (Or.inl rfl) (pe_tup (pa_cons pe_str (pa_cons (pe_op op_add pe_int (C8.pe_c c__law_draw hr (by decide) rfl (pa_cons (pv 0) (pa_cons (pe_op op_sub (pv 2) pe_int) pa_nil)))) pa_nil))))) pss_nil)
    (pss_one (ps_ret (pe_tup (pa_cons pe_str (pa_cons (pv 6) (pa_cons (pv 8) (pa_cons (pe_op op_add pe_int (C8.pe_c c__law_draw hr (by decide) rfl (pa_cons (pv 0) (pa_cons (pv 3) pa_nil)))) (pa_cons (pe_ix ixlq (pe_lst (pa_cons pe_str (pa_cons pe_str (pa_cons pe_str (pa_cons pe_str pa_nil))))) (C8.pe_c c__law_draw hr (by decide) rfl (pa_cons (pv 0) (pa_cons pe_int pa_nil))) (fun _ _ => rfl)) pa_nil)))))))))) pss_nil)
    (pss_cons (ps_set (i := 9) nd rfl (Or.inl rfl) (C8.pe_c c__law_draw hr (by decide) rfl (pa_cons (pv 0) (pa_cons pe_int pa_nil))))
    (pss_cons (ps_if (PW.pt (pw_and (pt_cmpR op_gt (pv 9) pe_int (by first | exact nomark _ | rfl)) (pw_and1 (pt_cmpR op_gt (pv 2) pe_int (by first | exact nomark _ | rfl))))) (pss_one (ps_ret (pe_tup (pa_cons (pe_ix ixlq (pe_lst (pa_cons pe_str (pa_cons pe_str (pa_cons pe_str pa_nil)))) (pe_op op_sub (pv 9) pe_int) (fun _ _ => rfl)) (pa_cons (pe_op op_add pe_int (C8.pe_c c__law_draw hr (by decide) rfl (pa_cons (pv 0) (pa_cons (pe_op op_sub (pv 2) pe_int) pa_nil)))) pa_nil))))) pss_nil)
    (pss_cons (ps_if (pt_cmpR op_eq (pv 9) pe_int (by first | exact nomark _ | rfl)) (pss_one (ps_ret pe_str)) pss_nil)
    (pss_one (ps_ret (pe_ifExp (PW.pt (pw_and (pt_cmpR op_eq (pv 9) pe_int (by first | exact nomark _ | rfl)) (pw_and1 (pt_cmpR op_gt (pv 1) pe_int (by first | exact nomark _ | rfl))))) pe_str (pe_tup (pa_cons pe_str (pa_cons (pv 6) pa_nil)))))))))))), ?_⟩
    have d0 := Dr.start sG ha ga
    refine ⟨by show 6 ≤ sizeLine; decide, fun D5 hD5 => ?_⟩
    have d1 := d0.gr ((Gr.refl sG).fr (o := .lst (codesL.map V.str)) hD5)
    have h5 : (upd G D5 (.lst (codesL.map V.str))) D5 = some (.lst (codesL.map V.str)) := upd_same
    have eH : (upd H D5 (.lst [V.str "a", V.str "b", V.str "x", V.str "1", V.str "ab", V.str "z9"])) = upd H D5 (.lst (codesL.map V.str)) := rfl
    rw [eH]
    generalize upd G D5 (.lst (codesL.map V.str)) = G1 at d1 h5
    generalize upd H D5 (.lst (codesL.map V.str)) = H1 at d1 ⊢
    have k1 := k
    unfold mAction at k1
    dsimp only at k1
    -- code, other
    have l1 := draw_le p (m := 6) (by decide)
    have l2 := draw_le (mDraw p 6).2 (m := 6) (by decide)
    have l3 := draw_le (mDraw (mDraw p 6).2 6).2 (m := 10) (by decide)
    have l123 := (l1.trans l2).trans l3
    have o1 := l1.ok hp (by omega)
    have o2 := (l1.trans l2).ok hp (by omega)
    have o3 := l123.ok hp (by omega)
    have d2 : Dr a G H G1 (upd H1 a (poV (mDraw p 6).2)) (mDraw p 6).2 := d1.draw
    refine ⟨_, rfl, _, rfl, a, p, 6, rfl, d1.ha, hp, by decide, by decide, D5, codesL.map V.str, _, .str (codeAt (mDraw p 6).1), rfl, rfl, d2.sub _ _ h5, codes_at (draw_in p (by decide)), ?_⟩
    generalize upd H1 a (poV (mDraw p 6).2) = H2 at d2 ⊢
    generalize hx1 : mDraw p 6 = x1 at d2 k1 l2 l3 l123 o1 o2 o3 ⊢
    have d3 : Dr a G H G1 (upd H2 a (poV (mDraw x1.2 6).2)) (mDraw x1.2 6).2 := d2.draw
    refine ⟨_, rfl, _, rfl, a, x1.2, 6, rfl, d2.ha, o1, by decide, by decide, D5, codesL.map V.str, _, .str (codeAt (mDraw x1.2 6).1), rfl, rfl, d3.sub _ _ h5, codes_at (draw_in x1.2 (by decide)), _, _, rfl, ?_⟩
    generalize upd H2 a (poV (mDraw x1.2 6).2) = H3 at d3 ⊢
    generalize mDraw x1.2 6 = x2 at d3 k1 l3 l123 o2 o3 ⊢
    have d4 : Dr a G H G1 (upd H3 a (poV (mDraw x2.2 10).2)) (mDraw x2.2 10).2 := d3.draw
    refine ⟨_, rfl, a, x2.2, 10, rfl, d3.ha, o2, by decide, by decide, _, rfl, _, _, rfl, rfl, _, rfl, ?_⟩
    generalize upd H3 a (poV (mDraw x2.2 10).2) = H4 at d4 ⊢
    generalize mDraw x2.2 10 = x3 at d4 k1 l123 o3 ⊢
    have c3 := l123.c1
    have c1x : CodeOk (codeAt x1.1) := code_ok _
    have c2x : CodeOk (codeAt x2.1) := code_ok _
    generalize codeAt x1.1 = cA at k1 c1x ⊢
    generalize codeAt x2.1 = cB at k1 c2x ⊢
    refine iteB (fun h => ?_) fun h => ?_
    · have hlt : x3.1 < often := of_decide_eq_true h
      rw [if_pos hlt] at k1
      unfold actDual at k1
      dsimp only at k1
      -- hold = ('code', other)
      refine ⟨_, rfl, by show 2 ≤ sizeLine; decide, fun z hz => ?_⟩
      have d5 := d4.gr ((Gr.refl d4.sub).fr (o := .tup [.str "code", .str cB]) hz)
      have dz : Dq (upd G1 z (.tup [.str "code", .str cB])) (.ref z) (Wt.code cB).d := newT (d4.sub.free hz) (.two (.str _) (.str _))
      generalize upd G1 z (.tup [.str "code", .str cB]) = G5 at d5 dz
      generalize upd H4 z (.tup [.str "code", .str cB]) = H5 at d5 ⊢
      refine ⟨fun σ H6 => ∃ G6 hv hw q, σ = [some (.ref a), some (.int (layer : Nat)), some (.int (deep : Nat)), some (.int top), some (.int often), some (.ref D5), some (.str cA), some (.str cB), some hv, none] ∧ Dr a G H G6 H6 q ∧ Dq G6 hv hw.d ∧ actHold x3.2 deep cB = (hw, q) ∧ Le x3.2 q 2, ?_, ?_⟩
      rotate_left
      · rintro σ H6 ⟨G6, hv, hw, q, rfl, d6, dh, eh, lq⟩
        have oq := (l123.trans lq).ok hp (by omega)
        have c5 := lq.c1
        have l6 := draw_le q (m := top) (by omega)
        have o6 := l6.ok oq (by omega)
        have d7 : Dr a G H G6 (upd H6 a (poV (mDraw q top).2)) (mDraw q top).2 := d6.draw
        refine ⟨_, rfl, _, rfl, _, rfl, _, rfl, a, q, top, rfl, d6.ha, oq, by omega, by omega, 1, _, rfl, rfl, by show 4 ≤ sizeLine; decide, fun l hl => ?_⟩
        rw [eh] at k1
        dsimp only at k1
        generalize upd H6 a (poV (mDraw q top).2) = H7 at d7 hl ⊢
        generalize mDraw q top = x6 at d7 k1 o6 ⊢
        have d8 := d7.gr ((Gr.refl d7.sub).fr (o := .lst (rulesL.map V.str)) hl)
        have hl8 : (upd G6 l (.lst (rulesL.map V.str))) l = some (.lst (rulesL.map V.str)) := upd_same
        have dh8 := dh.of (same_upd (o := .lst (rulesL.map V.str)) (d7.sub.free hl))
        have eH2 : (upd H7 l (.lst [V.str "time", V.str "time", V.str "other", V.str "within"])) = upd H7 l (.lst (rulesL.map V.str)) := rfl
        rw [eH2]
        generalize upd G6 l (.lst (rulesL.map V.str)) = G8 at d8 hl8 dh8
        generalize upd H7 l (.lst (rulesL.map V.str)) = H8 at d8 ⊢
        have d9 : Dr a G H G8 (upd H8 a (poV (mDraw x6.2 4).2)) (mDraw x6.2 4).2 := d8.draw
        refine ⟨_, rfl, a, x6.2, 4, rfl, d8.ha, o6, by decide, by decide, l, rulesL.map V.str, _, .str (ruleAt (mDraw x6.2 4).1), rfl, rfl, d9.sub _ _ hl8, rules_at (draw_in _ (by decide)), by show 5 ≤ sizeLine; decide, fun t ht => ?_⟩
        exact k1 _ (upd G8 t _) _ (d9.gr ((Gr.refl d9.sub).fr ht)) (newT (d9.sub.free ht) (.cons (.str _) (.cons (.str _) (.three dh8 (.int _) (.str _)))))
      refine ⟨_, rfl, _, _, rfl, rfl, _, rfl, iteB (fun h2 => ?_) fun h2 => ?_⟩
      · have hdeep : 1 < deep := by have := of_decide_eq_true h2; omega
        have l4 := draw_le x3.2 (m := 3) (by decide)
        have o4 := l4.ok o3 (by omega)
        have c4 := l4.c1
        have d6 : Dr a G H G5 (upd H5 a (poV (mDraw x3.2 3).2)) (mDraw x3.2 3).2 := d5.draw
        refine ⟨_, rfl, a, x3.2, 3, rfl, d5.ha, o3, by decide, by decide, _, _, rfl, rfl, _, rfl, ?_⟩
        have eh0 : actHold x3.2 deep cB = (if 0 < (mDraw x3.2 3).1 then (.lay (1 + (mDraw (mDraw x3.2 3).2 ((deep : Int) - 1)).1), (mDraw (mDraw x3.2 3).2 ((deep : Int) - 1)).2) else (.code cB, (mDraw x3.2 3).2)) := by
          unfold actHold
          rw [if_pos hdeep]
        generalize upd H5 a (poV (mDraw x3.2 3).2) = H6 at d6 ⊢
        generalize mDraw x3.2 3 = x4 at d6 eh0 l4 o4 c4 ⊢
        refine iteB (fun h3 => ?_) fun h3 => ?_
        · have h3' : 0 < x4.1 := of_decide_eq_true h3
          rw [if_pos h3'] at eh0
          have l5 := draw_le x4.2 (m := (deep : Int) - 1) (by omega)
          have d7 : Dr a G H G5 (upd H6 a (poV (mDraw x4.2 ((deep : Int) - 1)).2)) (mDraw x4.2 ((deep : Int) - 1)).2 := d6.draw
          refine ⟨_, rfl, _, rfl, _, _, rfl, rfl, a, x4.2, (deep : Int) - 1, rfl, d6.ha, o4, by omega, by omega, _, _, rfl, rfl, by show 2 ≤ sizeLine; decide, fun z2 hz2 => ?_⟩
          generalize upd H6 a (poV (mDraw x4.2 ((deep : Int) - 1)).2) = H7 at d7 hz2 ⊢
          generalize mDraw x4.2 ((deep : Int) - 1) = x5 at d7 eh0 l5 ⊢
          have d8 := d7.gr ((Gr.refl d7.sub).fr (o := .tup [.str "layer", .int (1 + x5.1)]) hz2)
          have dz2 : Dq (upd G5 z2 (.tup [.str "layer", .int (1 + x5.1)])) (.ref z2) (Wt.lay (1 + x5.1)).d := newT (d7.sub.free hz2) (.two (.str _) (.int _))
          exact ⟨_, _, _, _, rfl, d8, dz2, eh0, l4.trans l5⟩
        · have h3' : ¬ 0 < x4.1 := of_decide_eq_false h3
          rw [if_neg h3'] at eh0
          exact ⟨_, _, _, _, rfl, d6, dz, eh0, l4.mono (by decide)⟩
      · have hdeep : ¬ 1 < deep := by have := of_decide_eq_false h2; omega
        have eh0 : actHold x3.2 deep cB = (.code cB, x3.2) := by
          unfold actHold
          rw [if_neg hdeep]
        exact ⟨_, _, _, _, rfl, d5, dz, eh0, (Le.refl _).mono (by decide)⟩
    · have hlt : ¬ x3.1 < often := of_decide_eq_false h
      rw [if_neg hlt] at k1
      unfold actPlain at k1
      dsimp only at k1
      have l4 := draw_le x3.2 (m := 7) (by decide)
      have i4 := draw_in x3.2 (m := 7) (by decide)
      have o4 := l4.ok o3 (by omega)
      have c4 := l4.c1
      have d5 : Dr a G H G1 (upd H4 a (poV (mDraw x3.2 7).2)) (mDraw x3.2 7).2 := d4.draw
      refine ⟨_, rfl, a, x3.2, 7, rfl, d4.ha, o3, by decide, by decide, ?_⟩
      generalize upd H4 a (poV (mDraw x3.2 7).2) = H5 at d5 ⊢
      generalize mDraw x3.2 7 = x4 at d5 k1 i4 l4 o4 c4 ⊢
      refine ⟨_, rfl, _, _, rfl, rfl, _, rfl, ?_⟩
      by_cases h4 : 3 < x4.1
      · rw [decide_eq_true h4]
        refine ⟨_, rfl, _, _, rfl, rfl, _, rfl, ?_⟩
        by_cases h5d : 1 < deep
        · have e5 : decide ((1 : Int) < ((deep : Nat) : Int)) = true := decide_eq_true (by omega)
          rw [e5]
          rw [if_pos ⟨h4, h5d⟩] at k1
          refine ⟨by show 3 ≤ sizeLine; decide, fun l hl => ?_⟩
          have d6 := d5.gr ((Gr.refl d5.sub).fr (o := .lst [.str "layer", .str "lock", .str "once"]) hl)
          have hl6 : (upd G1 l (.lst [.str "layer", .str "lock", .str "once"])) l = some (.lst [.str "layer", .str "lock", .str "once"]) := upd_same
          generalize upd G1 l (.lst [.str "layer", .str "lock", .str "once"]) = G6 at d6 hl6
          generalize upd H5 l (.lst [.str "layer", .str "lock", .str "once"]) = H6 at d6 ⊢
          have l5 := draw_le x4.2 (m := (deep : Int) - 1) (by omega)
          have d7 : Dr a G H G6 (upd H6 a (poV (mDraw x4.2 ((deep : Int) - 1)).2)) (mDraw x4.2 ((deep : Int) - 1)).2 := d6.draw
          have ew : atI [V.str "layer", .str "lock", .str "once"] (x4.1 - 4) = some (.str (wordW (x4.1 - 4) (1 + (mDraw x4.2 ((deep : Int) - 1)).1)).word) := by
            have : x4.1 = 4 ∨ x4.1 = 5 ∨ x4.1 = 6 := by omega
            rcases this with e | e | e <;> rw [e] <;> rfl
          have ev : (wordW (x4.1 - 4) (1 + (mDraw x4.2 ((deep : Int) - 1)).1)).val = .int (1 + (mDraw x4.2 ((deep : Int) - 1)).1) := by
            unfold wordW
            split
            · rfl
            · split <;> rfl
          refine ⟨_, rfl, _, _, rfl, rfl, l, _, _, _, rfl, rfl, d6.sub _ _ hl6, ew, ?_⟩
          refine ⟨_, rfl, _, rfl, _, _, rfl, rfl, a, x4.2, (deep : Int) - 1, rfl, d6.ha, o4, by omega, by omega, _, _, rfl, rfl, by show 2 ≤ sizeLine; decide, fun t ht => ?_⟩
          refine k1 _ (upd G6 t _) _ (d7.gr ((Gr.refl d7.sub).fr ht)) (newT (d7.sub.free ht) (.two (.str _) ?_))
          rw [ev]
          exact .int _
        · have e5 : decide ((1 : Int) < ((deep : Nat) : Int)) = false := decide_eq_false (by omega)
          rw [e5]
          rw [if_neg (fun z => h5d z.2)] at k1
          have e6 : ¬ x4.1 = 3 := by omega
          have e7 : ¬ (x4.1 = 2 ∧ 0 < layer) := by omega
          rw [if_neg e6, if_neg e7] at k1
          refine ⟨_, rfl, rfl, _, rfl, ?_⟩
          rw [decide_eq_false (fun z => e6 (V.int.inj z))]
          refine ⟨_, rfl, rfl, _, rfl, ?_⟩
          have e8 : ¬ x4.1 = 2 := by omega
          rw [decide_eq_false (fun z => e8 (V.int.inj z))]
          refine ⟨_, rfl, by show 2 ≤ sizeLine; decide, fun t ht => ?_⟩
          exact k1 _ (upd G1 t _) _ (d5.gr ((Gr.refl d5.sub).fr ht)) (newT (d5.sub.free ht) (.two (.str _) (.str _)))
      · rw [decide_eq_false h4]
        rw [if_neg (fun z => h4 z.1)] at k1
        refine ⟨_, rfl, rfl, _, rfl, ?_⟩
        by_cases e6 : x4.1 = 3
        · rw [decide_eq_true (congrArg V.int e6)]
          rw [if_pos e6] at k1
          exact k1 _ G1 _ d5 (.str _)
        · rw [decide_eq_false (fun z => e6 (V.int.inj z))]
          rw [if_neg e6] at k1
          refine ⟨_, rfl, rfl, _, rfl, ?_⟩
          by_cases e8 : x4.1 = 2
          · rw [decide_eq_true (congrArg V.int e8)]
            refine ⟨_, rfl, _, _, rfl, rfl, _, rfl, ?_⟩
            by_cases hla : 0 < layer
            · rw [if_pos ⟨e8, hla⟩] at k1
              have e9 : decide ((0 : Int) < ((layer : Nat) : Int)) = true := decide_eq_true (by omega)
              rw [e9]
              exact k1 _ G1 _ d5 (.str _)
            · rw [if_neg (fun z => hla z.2)] at k1
              have e9 : decide ((0 : Int) < ((layer : Nat) : Int)) = false := decide_eq_false (by omega)
              rw [e9]
              refine ⟨_, rfl, by show 2 ≤ sizeLine; decide, fun t ht => ?_⟩
              exact k1 _ (upd G1 t _) _ (d5.gr ((Gr.refl d5.sub).fr ht)) (newT (d5.sub.free ht) (.two (.str _) (.str _)))
          · rw [decide_eq_false (fun z => e8 (V.int.inj z))]
            rw [if_neg (fun z => e8 z.1)] at k1
            refine ⟨_, rfl, by show 2 ≤ sizeLine; decide, fun t ht => ?_⟩
            exact k1 _ (upd G1 t _) _ (d5.gr ((Gr.refl d5.sub).fr ht)) (newT (d5.sub.free ht) (.two (.str _) (.str _)))
end
end HT8
end partW22
section partW23
set_option Elab.async false
set_option linter.all false
set_option maxRecDepth 100000
namespace HT8
open PySem PySem.Spec PyProof.Rows L2 HT5 HT6 HT7
theorem GrP.freeze {P : Addr → Prop} {G H G1 H1 : Hp} {D : Addr} {o : HO} (g : GrP P G H G1 H1) (h0 : H D = none) (h1 : H1 D = some o) : GrP P G H (upd G1 D o) H1 := ⟨fun b x e => by
    by_cases hb : b = D
    · subst hb; rw [upd_same] at e; rw [← e]; exact h1
    · rw [upd_ne hb] at e; exact g.sub b x e, fun b x e => by
    have z := g.ext b x e
    by_cases hb : b = D
    · subst hb
      have y := g.sub b x z
      rw [upd_same, ← h1]; exact y
    · rw [upd_ne hb]; exact z, g.keep, fun b e h => by
    by_cases hb : b = D
    · subst hb; exact h0
    · rw [upd_ne hb] at e; exact g.new b e h, g.there⟩
section
variable {J : It} {n : Nat} {Y : Nat → Hp → V → Hp → Prop}
/-- a comprehension whose step draws -/
theorem lcP {a : Addr} {G1 H1 : Hp} {Qd : Hp → Prop} (st : Nat → Po) (it : Nat → List PyData) (w : Walk J n (fun _ => True) Y) (hn : n ≤ 1000) (h0 : it 0 = []) (hl : ∀ i, (it i).length ≤ i) (s1 : Same G1 H1) (ha : H1 a = some (poV (st 0))) (ga : G1 a = none)
    {g : TG} {tt : TT} {te : TE} {vs : List Nat} {σ : L2.St} {D : Addr} (hD : H1 D = none)
    (hs : ∀ i x Gi Hi H' (Ok : V → Hp → Prop) (No : Hp → Prop), i < n → Dr a G1 H1 Gi Hi (st i) → Y i Hi x H' →
      (∀ y G4 H4 d, Dr a Gi Hi G4 H4 (st (i + 1)) → Dq G4 y d → it (i + 1) = it i ++ [d] → Ok y H4) → (∀ G4 H4, Dr a Gi Hi G4 H4 (st (i + 1)) → it (i + 1) = it i → No H4) →
      g x (wipe σ vs) H' fun σ2 H2 => wipe σ2 vs = wipe σ vs ∧ tt σ2 H2 fun b H3 => if b = true then te σ2 H3 Ok else No H3)
    (hd : ∀ G' H', Dr a G1 H1 G' H' (st n) → Dq G' (.ref D) (.list (it n)) → Qd H') :
    ∃ W : Nat → Nat → Hp → Prop, (∃ m, W 0 m (upd H1 D (.lst []))) ∧ ∀ i m H, W i m H →
      (J.stop i H ∧ Qd H) ∨ (J.go i H ∧ ∃ Nx : Hp → Prop, (∀ H', Nx H' → ∃ m', m' < m ∧ W (i + 1) m' H') ∧ ∀ x H', J.yld i H x H' → g x (wipe σ vs) H' fun σ2 H2 => wipe σ2 vs = wipe σ vs ∧ tt σ2 H2 fun b H3 =>
        if b = true then te σ2 H3 fun y H4 => ∃ acc, H4 D = some (.lst acc) ∧ acc.length < sizeLine ∧ Nx (upd H4 D (.lst (acc ++ [y]))) else Nx H3) := by
  have nDa : D ≠ a := fun e => by rw [e, ha] at hD; cases hD
  refine lc_it w (fun i Hi => ∃ Gi acc, Dr a G1 H1 Gi Hi (st i) ∧ Hi D = some (.lst acc) ∧ Gi D = none ∧ DqAll Gi acc (it i)) ?_ (fun _ _ _ _ => trivial) ?_ ?_
  · exact ⟨G1, [], (Dr.start s1 ha ga).gr ((Gr.refl s1).tmp hD), upd_same, s1.free hD, by rw [h0]; exact .nil⟩
  · rintro i x Hi H' hi ⟨Gi, acc, di, hacc, gD, da⟩ y
    refine hs i x Gi Hi H' _ _ hi di y (fun z G4 H4 d d4 dz e => ?_) fun G4 H4 d4 e => ?_
    · have hD4 : H4 D = some (.lst acc) := d4.g.keep _ _ nDa hacc
      have gD4 : G4 D = none := GrP.out d4.g hacc gD
      have dd := di.then d4
      refine ⟨acc, hD4, ?_, G4, acc ++ [z], ⟨GrP.setD dd.g hD gD4, by rw [upd_ne nDa.symm]; exact dd.ha, dd.ga⟩, upd_same, gD4, ?_⟩
      · have := da.length
        have := hl i
        exact small1000 (by omega)
      · rw [e]
        exact dq_snoc (da.of d4.g.ext) dz
    · refine ⟨G4, acc, di.then d4, d4.g.keep _ _ nDa hacc, GrP.out d4.g hacc gD, ?_⟩
      rw [e]
      exact da.of d4.g.ext
  · rintro Hn ⟨Gn, acc, dn, hacc, gD, da⟩
    exact hd (upd Gn D (.lst acc)) Hn ⟨GrP.freeze dn.g hD hacc, dn.ha, by rw [upd_ne nDa.symm]; exact dn.ga⟩ (ls upd_same (da.of (same_upd gD)))
end
/-! ### the layout -/
def mRow (layer deep : Nat) (top often : Int) (p : Po) : Nat → List Ac × Po
  | 0 => ([], p)
  | n + 1 => ((mRow layer deep top often p n).1 ++ [(mAction (mRow layer deep top often p n).2 layer deep top often).1], (mAction (mRow layer deep top often p n).2 layer deep top often).2)
def mLays (many deep : Nat) (top often : Int) (p : Po) : Nat → Lay × Po
  | 0 => ([], p)
  | n + 1 => ((mLays many deep top often p n).1 ++ [(mRow n deep top often (mLays many deep top often p n).2 many).1], (mRow n deep top often (mLays many deep top often p n).2 many).2)
def mLayout (p : Po) (wide tall top often : Int) : Lay × Po :=
  let d1 := mDraw p wide
  let d2 := mDraw d1.2 tall
  mLays (1 + d1.1).toNat (1 + d2.1).toNat top often d2.2 (1 + d2.1).toNat
theorem row_facts {layer deep : Nat} (hd : 1 ≤ deep) {top often : Int} (h1 : 1 ≤ top) (h2 : top ≤ 1000000) (p : Po) : ∀ n, (mRow layer deep top often p n).1.length = n ∧ (∀ a ∈ (mRow layer deep top often p n).1, AcOk layer deep a) ∧ Le p (mRow layer deep top often p n).2 (10 * n)
  | 0 => ⟨rfl, (fun _ h => by cases h), Le.refl p⟩
  | n + 1 => by
    obtain ⟨a1, a2, a3⟩ := row_facts hd h1 h2 p n
    obtain ⟨b1, b2⟩ := act_facts (mRow layer deep top often p n).2 (layer := layer) hd (often := often) h1 h2
    refine ⟨?_, ?_, (a3.trans b2).mono (by omega)⟩
    · show (_ ++ [_]).length = _
      rw [List.length_append, a1]
      rfl
    · intro a ha
      rcases List.mem_append.mp (show a ∈ (mRow layer deep top often p n).1 ++ [_] from ha) with h | h
      · exact a2 a h
      · rw [List.mem_singleton.mp h]; exact b1
theorem lays_facts {many deep : Nat} (hd : 1 ≤ deep) {top often : Int} (h1 : 1 ≤ top) (h2 : top ≤ 1000000) (p : Po) : ∀ n, (mLays many deep top often p n).1.length = n ∧ (∀ r ∈ (mLays many deep top often p n).1, r.length = many) ∧ (∀ (i : Nat) (r : List Ac), (mLays many deep top often p n).1[i]? = some r → ∀ a ∈ r, AcOk i deep a) ∧ Le p (mLays many deep top often p n).2 (10 * many * n)
  | 0 => ⟨rfl, (fun _ h => by cases h), (fun i r h => by cases h), (Le.refl p).mono (by omega)⟩
  | n + 1 => by
    obtain ⟨a1, a2, a3, a4⟩ := lays_facts (many := many) (often := often) hd h1 h2 p n
    obtain ⟨b1, b2, b3⟩ := row_facts (layer := n) (often := often) hd h1 h2 (mLays many deep top often p n).2 many
    refine ⟨?_, ?_, ?_, (a4.trans b3).mono (by rw [Int.natCast_add, Int.mul_add]; omega)⟩
    · show (_ ++ [_]).length = _
      rw [List.length_append, a1]
      rfl
    · intro r hr
      rcases List.mem_append.mp (show r ∈ (mLays many deep top often p n).1 ++ [_] from hr) with h | h
      · exact a2 r h
      · rw [List.mem_singleton.mp h]; exact b1
    · intro i r hir a ha
      have hir' : ((mLays many deep top often p n).1 ++ [(mRow n deep top often (mLays many deep top often p n).2 many).1])[i]? = some r := hir
      by_cases hi : i < n
      · rw [List.getElem?_append_left (by omega)] at hir'
        exact a3 i r hir' a ha
      · rw [List.getElem?_append_right (by omega), a1] at hir'
        have e0 : i - n = 0 := by
          cases q : i - n with
          | zero => rfl
          | succ k => rw [q] at hir'; simp at hir'
        rw [e0] at hir'
        have : r = _ := (Option.some.inj hir').symm
        rw [this] at ha
        have : i = n := by omega
        rw [this]
        exact b2 a ha
theorem layout_facts {p : Po} {wide tall top often : Int} (hw : 1 ≤ wide ∧ wide ≤ 16) (ht : 1 ≤ tall ∧ tall ≤ 6) (h1 : 1 ≤ top) (h2 : top ≤ 1000000) : LayOk (mLayout p wide tall top often).1 ∧ Le p (mLayout p wide tall top often).2 1000 := by
  unfold mLayout
  dsimp only
  have l1 := draw_le p (m := wide) (by omega)
  have i1 := draw_in p (m := wide) (by omega)
  have l2 := draw_le (mDraw p wide).2 (m := tall) (by omega)
  have i2 := draw_in (mDraw p wide).2 (m := tall) (by omega)
  generalize mDraw p wide = x1 at l1 i1 l2 i2 ⊢
  generalize mDraw x1.2 tall = x2 at l2 i2 ⊢
  have hd : 1 ≤ (1 + x2.1).toNat := by omega
  obtain ⟨a1, a2, a3, a4⟩ := lays_facts (many := (1 + x1.1).toNat) (often := often) hd h1 h2 x2.2 (1 + x2.1).toNat
  have hne : ∃ r0 L', (mLays (1 + x1.1).toNat (1 + x2.1).toNat top often x2.2 (1 + x2.1).toNat).1 = r0 :: L' := by
    cases e : (mLays (1 + x1.1).toNat (1 + x2.1).toNat top often x2.2 (1 + x2.1).toNat).1 with
    | nil => rw [e] at a1; simp at a1; omega
    | cons r L' => exact ⟨r, L', rfl⟩
  have hh : ((mLays (1 + x1.1).toNat (1 + x2.1).toNat top often x2.2 (1 + x2.1).toNat).1.headD []).length = (1 + x1.1).toNat := by
    obtain ⟨r0, L', e⟩ := hne
    rw [e]
    exact a2 r0 (by rw [e]; exact List.mem_cons_self)
  refine ⟨⟨by omega, by omega, by rw [hh]; omega, by rw [hh]; omega, fun r hr => by rw [hh]; exact a2 r hr, fun i r hir a ha => ?_⟩, ((l1.trans l2).trans a4).mono ?_⟩
  · rw [a1]
    exact a3 i r hir a ha
  · have e1 : ((1 + x1.1).toNat : Int) ≤ 16 := by omega
    have e2 : ((1 + x2.1).toNat : Int) ≤ 6 := by omega
    have : (10 * ((1 + x1.1).toNat : Int)) * ((1 + x2.1).toNat : Int) ≤ 160 * 6 := Int.mul_le_mul (by omega) e2 (by omega) (by omega)
    omega
def sp_law_layout : Sp := fun vs H Q _ => ∃ (G : Hp) (a : Addr) (p : Po) (wide tall top often : Int), vs = [.ref a, .int wide, .int tall, .int top, .int often] ∧ Same G H ∧ H a = some (poV p) ∧ G a = none ∧ PoOk p ∧ p.c + 2000 ≤ 2 ^ 40 ∧ (1 ≤ wide ∧ wide ≤ 16) ∧ (1 ≤ tall ∧ tall ≤ 6) ∧ 1 ≤ top ∧ top ≤ 1000000 ∧
  ∀ v G' H', Dr a G H G' H' (mLayout p wide tall top often).2 → Dq G' v (layD (mLayout p wide tall top often).1) → Q v H'
section
variable {P : Program} {w : World} {K : PySem.W.Frag} {mg : Str → Option Value} {base : Heap}
abbrev s_law_layout : Stmt := top 64
abbrev N_law_layout : List PySem.Str := ["_law_pool_here", "_law_wide", "_law_tall", "_law_top", "_law_often", "_law_many", "_law_deep", "_law_key", "_law_layer"]
abbrev P_law_layout : List PySem.Str := ["_law_pool_here", "_law_wide", "_law_tall", "_law_top", "_law_often"]
theorem sc_law_layout : FnScope N_law_layout P_law_layout (defScope s_law_layout) := ⟨rfl, rfl, rfl, by decide +kernel, rfl, by decide +kernel, by decide +kernel⟩
/-- the outer comprehension's scope -/
def retScope : Stmt → Scope
  | .Return (some (.ListComp _ _ sc _)) _ => sc
  | _ => defScope (top 0)
abbrev isc_law_layout : Scope := relS (retScope ((defBody s_law_layout).getD 1 (.Pass ⟨0, 0, 0, 0⟩))) (defScope s_law_layout)
theorem ok_law_layout {f : Addr} {fd : FuncData} (F : Fun K "_law_layout" "_law_layout" s_law_layout f fd) (B : Bt mg) (c__law_draw : C8.Cal P w K mg base 1 "_law_draw" sp_law_draw []) (c__law_action : C8.Cal P w K mg base 2 "_law_action" sp_law_action []) : FnOk P w K mg base CX0 3 f fd P_law_layout sp_law_layout := by
  refine F.ok sc_law_layout (fun vs H Q E h => ?_) (fun cdv A outer s H vs Q E hr h => ?_)
  · obtain ⟨G, a, p, wide, tall, top, often, rfl, _⟩ := h
    rfl
  · obtain ⟨G, a, p, wide, tall, top, often, rfl, sG, ha, ga, hp, hpc, hw, ht, ht1, ht2, k⟩ := h
    have nd := sc_law_layout.nd
    refine ⟨_, (pss_cons (ps_asg (pe_tup (pa_cons (pe_op op_add pe_int (C8.pe_c c__law_draw hr (by decide) rfl (pa_cons (pv 0) (pa_cons (pv 1) pa_nil)))) (pa_cons (pe_op op_add pe_int (C8.pe_c c__law_draw hr (by decide) rfl (pa_cons (pv 0) (pa_cons (pv 2) pa_nil)))) pa_nil))) (pg_tupq (n := 2) rfl (pgs_cons (pg_name (i := 5) nd rfl (Or.inr rfl)) (pgs_cons (pg_name (i := 6) nd rfl (Or.inr rfl)) pgs_nil))))
    (pss_one (ps_ret (pe_lc (own := [("_law_layer", 8)]) rfl nd (pi_range1 rfl B.range (pa_cons (pv 6) pa_nil)) (blkOk_by (own := [("_law_layer", 8)]) (N := N_law_layout) (sc := defScope s_law_layout) (by decide +kernel)) (fun _ _ _ _ _ => (pg_name (i := 8) nd rfl (Or.inr rfl))) (fun _ _ _ _ _ => pts_nil) (fun _ _ _ _ _ => (pe_lc (own := [("_law_key", 7)]) rfl nd (pi_range1 rfl B.range (pa_cons (pv 5) pa_nil)) (blkOk_by (own := [("_law_key", 7)]) (N := N_law_layout) (sc := isc_law_layout) (by decide +kernel)) (fun _ _ _ _ _ => (pg_name (i := 7) nd rfl (Or.inl rfl))) (fun _ _ _ _ _ => pts_nil) (fun _ _ _ _ _ => (C8.pe_c c__law_action hr (by decide) rfl (pa_cons (pv 0) (pa_cons (pv 8) (pa_cons (pv 6) (pa_cons (pv 3) (pa_cons (pv 4) pa_nil))))))))))))), ?_⟩
    have k1 := k
    unfold mLayout at k1
    dsimp only at k1
    have d0 := Dr.start sG ha ga
    have l1 := draw_le p (m := wide) (by omega)
    have i1 := draw_in p (m := wide) (by omega)
    have o1 := l1.ok hp (by omega)
    have c1 := l1.c1
    have d1 : Dr a G H G (upd H a (poV (mDraw p wide).2)) (mDraw p wide).2 := d0.draw
    refine ⟨_, rfl, _, rfl, a, p, wide, rfl, ha, hp, by omega, by omega, _, _, rfl, rfl, ?_⟩
    generalize upd H a (poV (mDraw p wide).2) = H1 at d1 ⊢
    generalize mDraw p wide = x1 at d1 k1 l1 i1 o1 c1 ⊢
    have l2 := draw_le x1.2 (m := tall) (by omega)
    have i2 := draw_in x1.2 (m := tall) (by omega)
    have o2 := l2.ok o1 (by omega)
    have c2 := l2.c1
    have d2 : Dr a G H G (upd H1 a (poV (mDraw x1.2 tall).2)) (mDraw x1.2 tall).2 := d1.draw
    refine ⟨_, rfl, _, rfl, a, x1.2, tall, rfl, d1.ha, o1, by omega, by omega, _, _, rfl, rfl, by show 2 ≤ sizeLine; decide, fun z hz => ?_⟩
    generalize upd H1 a (poV (mDraw x1.2 tall).2) = H2 at d2 hz ⊢
    generalize mDraw x1.2 tall = x2 at d2 k1 l2 i2 o2 c2 hz ⊢
    have d3 := d2.gr ((Gr.refl d2.sub).tmp (o := .tup [.int (1 + x1.1), .int (1 + x2.1)]) hz)
    have hzz : (upd H2 z (.tup [.int (1 + x1.1), .int (1 + x2.1)])) z = some (.tup [.int (1 + x1.1), .int (1 + x2.1)]) := upd_same
    refine ⟨z, _, rfl, hzz, rfl, _, _, rfl, _, _, rfl, rfl, ?_⟩
    generalize upd H2 z (.tup [.int (1 + x1.1), .int (1 + x2.1)]) = H3 at d3 ⊢
    refine ⟨_, rfl, _, rfl, by omega, by omega, fun D hD => ?_⟩
    have hdeep : 1 ≤ (1 + x2.1).toNat := by omega
    have edeep : (((1 + x2.1).toNat : Nat) : Int) = 1 + x2.1 := by omega
    refine lcP (a := a) (G1 := G) (fun i => (mLays (1 + x1.1).toNat (1 + x2.1).toNat top often x2.2 i).2) (fun i => (mLays (1 + x1.1).toNat (1 + x2.1).toNat top often x2.2 i).1.map fun row => PyData.list (row.map Ac.d)) (walk_range (lo := 0) (n := (1 + x2.1).toNat)) (by omega) rfl (fun i => by rw [List.length_map, (lays_facts hdeep ht1 ht2 x2.2 i).1]; exact Nat.le_refl _) d3.sub d3.ha d3.ga hD (fun i x Gi Hi H' Ok No hi di yy ok no => ?_) fun G5 H5 d5 dq => ?_
    · obtain ⟨rfl, hx⟩ := yy
      obtain rfl : x = V.int (i : Nat) := hx.trans (congrArg V.int (by omega))
      obtain ⟨f1, f2, f3, f4⟩ := lays_facts (many := (1 + x1.1).toNat) (often := often) hdeep ht1 ht2 x2.2 i
      have fc := f4.c1
      have hmul : (10 * ((1 + x1.1).toNat : Int)) * (i : Int) ≤ 160 * 6 := Int.mul_le_mul (by omega) (by omega) (by omega) (by omega)
      have oi := f4.ok o2 (by omega)
      refine ⟨rfl, _, rfl, _, rfl, by omega, by omega, fun D2 hD2 => ?_⟩
      have hq : ∃ q, q = (mLays (1 + x1.1).toNat (1 + x2.1).toNat top often x2.2 i).2 := ⟨_, rfl⟩
      refine lcP (a := a) (G1 := Gi) (fun j => (mRow i (1 + x2.1).toNat top often (mLays (1 + x1.1).toNat (1 + x2.1).toNat top often x2.2 i).2 j).2) (fun j => (mRow i (1 + x2.1).toNat top often (mLays (1 + x1.1).toNat (1 + x2.1).toNat top often x2.2 i).2 j).1.map Ac.d) (walk_range (lo := 0) (n := (1 + x1.1).toNat)) (by omega) rfl (fun j => by rw [List.length_map, (row_facts hdeep ht1 ht2 _ j).1]; exact Nat.le_refl _) di.sub di.ha di.ga hD2 (fun j x Gj Hj H' Ok2 No2 hj dj yy ok2 no2 => ?_) fun G6 H6 d6 dq6 => ?_
      · obtain ⟨rfl, hx⟩ := yy
        obtain ⟨r1, r2, r3⟩ := row_facts (layer := i) (often := often) hdeep ht1 ht2 (mLays (1 + x1.1).toNat (1 + x2.1).toNat top often x2.2 i).2 j
        have rc := r3.c1
        have oj := r3.ok oi (by omega)
        refine ⟨rfl, _, rfl, _, rfl, _, rfl, _, rfl, _, rfl, Gj, a, _, i, (1 + x2.1).toNat, top, often, ?_, dj.sub, dj.ha, dj.ga, oj, by omega, hdeep, by omega, ht1, ht2, fun v G7 H7 d7 dv => ?_⟩
        · rw [edeep]
          rfl
        · refine ok2 v G7 H7 _ d7 dv ?_
          show List.map Ac.d (_ ++ [_]) = _
          rw [List.map_append]
          rfl
      · refine ok _ G6 H6 _ d6 dq6 ?_
        show List.map _ (_ ++ [_]) = _
        rw [List.map_append]
        rfl
    · exact k1 _ G5 H5 (d3.then d5) dq
end
end HT8
end partW23
section partW24
set_option Elab.async false
set_option linter.all false
set_option maxRecDepth 100000
namespace HT8
open PySem PySem.Spec PyProof.Rows L2 HT5 HT6 HT7
/-! ### the order of the steps -/
structure OS where
  dl : List Int
  fs : List Stp
  po : Po
def ordKey (many : Int) (s : OS) : Int × Po :=
  if s.dl = [] then mDraw s.po many
  else if (mDraw (mDraw s.po many).2 2).1 = 0 then
    (s.dl.getD (mDraw (mDraw (mDraw s.po many).2 2).2 s.dl.length).1.toNat 0, (mDraw (mDraw (mDraw s.po many).2 2).2 s.dl.length).2)
  else ((mDraw s.po many).1, (mDraw (mDraw s.po many).2 2).2)
def ordNext (k : Int) (q : Po) (s : OS) : OS := ⟨s.dl.filter (· ≠ k) ++ (if s.dl.contains k then [] else [k]), s.fs ++ [(k, !s.dl.contains k)], q⟩
def ordStep (many : Int) (s : OS) : OS := ordNext (ordKey many s).1 (ordKey many s).2 s
def mOrd (many : Int) (p : Po) : Nat → OS
  | 0 => ⟨[], [], p⟩
  | n + 1 => ordStep many (mOrd many p n)
def downAfter : List Int → List Stp → List Int
  | dl, [] => dl
  | dl, (k, true) :: r => downAfter (dl ++ [k]) r
  | dl, (k, false) :: r => downAfter (dl.filter (· ≠ k)) r
theorem stepsOk_app : ∀ {S T : List Stp} {dl : List Int}, stepsOk dl S → stepsOk (downAfter dl S) T → stepsOk dl (S ++ T)
  | [], T, dl, _, h => h
  | (k, true) :: r, T, dl, h, g => ⟨h.1, stepsOk_app h.2 g⟩
  | (k, false) :: r, T, dl, h, g => ⟨h.1, stepsOk_app h.2 g⟩
theorem downAfter_app : ∀ {S T : List Stp} {dl : List Int}, downAfter dl (S ++ T) = downAfter (downAfter dl S) T
  | [], T, dl => rfl
  | (k, true) :: r, T, dl => downAfter_app (S := r)
  | (k, false) :: r, T, dl => downAfter_app (S := r)
structure OrdOk (many : Int) (p : Po) (n : Nat) (s : OS) : Prop where
  len : s.fs.length = n
  alt : stepsOk [] s.fs
  da : downAfter [] s.fs = s.dl
  keys : ∀ f ∈ s.fs, 0 ≤ f.1 ∧ f.1 < many
  dk : ∀ k ∈ s.dl, 0 ≤ k ∧ k < many
  dn : s.dl.length ≤ n
  le : Le p s.po (3 * n)
theorem key_facts {many : Int} (hm : 0 < many) (s : OS) (hd : ∀ k ∈ s.dl, 0 ≤ k ∧ k < many) : (0 ≤ (ordKey many s).1 ∧ (ordKey many s).1 < many) ∧ Le s.po (ordKey many s).2 3 := by
  unfold ordKey
  have l1 := draw_le s.po hm
  have i1 := draw_in s.po hm
  split
  · exact ⟨i1, l1.mono (by decide)⟩
  · rename_i hne
    have l2 := draw_le (mDraw s.po many).2 (m := 2) (by decide)
    have hpos : 0 < (s.dl.length : Int) := by
      cases e : s.dl with
      | nil => exact absurd e hne
      | cons a r => rw [List.length_cons]; omega
    have l3 := draw_le (mDraw (mDraw s.po many).2 2).2 hpos
    have i3 := draw_in (mDraw (mDraw s.po many).2 2).2 hpos
    split
    · refine ⟨hd _ ?_, (l1.trans l2).trans l3⟩
      rw [List.getD_eq_getElem?_getD, List.getElem?_eq_getElem (by omega)]
      exact List.getElem_mem _
    · exact ⟨i1, (l1.trans l2).mono (by decide)⟩
theorem ordNext_ok {many : Int} {p : Po} {n : Nat} {s : OS} (h : OrdOk many p n s) {k : Int} {q : Po} (hk : 0 ≤ k ∧ k < many) (hq : Le s.po q 3) : OrdOk many p (n + 1) (ordNext k q s) := by
  have hc : s.dl.contains k = true ∨ s.dl.contains k = false := by cases s.dl.contains k <;> simp
  refine ⟨?_, ?_, ?_, ?_, ?_, ?_, (h.le.trans hq).mono (by omega)⟩
  · show (s.fs ++ [_]).length = _
    rw [List.length_append, h.len]; rfl
  · refine stepsOk_app h.alt ?_
    rw [h.da]
    rcases hc with e | e
    · rw [e]
      exact ⟨by simpa using e, trivial⟩
    · rw [e]
      exact ⟨by simpa using e, trivial⟩
  · show downAfter [] (s.fs ++ [_]) = s.dl.filter (· ≠ k) ++ _
    rw [downAfter_app, h.da]
    rcases hc with e | e
    · rw [e]
      show s.dl.filter (· ≠ k) = s.dl.filter (· ≠ k) ++ []
      rw [List.append_nil]
    · rw [e]
      show s.dl ++ [k] = s.dl.filter (· ≠ k) ++ [k]
      congr 1
      symm
      rw [List.filter_eq_self]
      intro x hx
      have : k ∉ s.dl := by simpa using e
      have : x ≠ k := fun z => this (by rw [← z]; exact hx)
      simpa using this
  · intro f hf
    rcases List.mem_append.mp (show f ∈ s.fs ++ [_] from hf) with z | z
    · exact h.keys f z
    · rw [List.mem_singleton.mp z]; exact hk
  · intro x hx
    rcases List.mem_append.mp (show x ∈ s.dl.filter (· ≠ k) ++ _ from hx) with z | z
    · exact h.dk x (List.mem_filter.mp z).1
    · split at z
      · cases z
      · rw [List.mem_singleton.mp z]; exact hk
  · show (s.dl.filter (· ≠ k) ++ _).length ≤ _
    rw [List.length_append]
    have h1 : (s.dl.filter (· ≠ k)).length ≤ s.dl.length := List.length_filter_le _ _
    have h2 := h.dn
    have h3 : (if s.dl.contains k then [] else [k]).length ≤ 1 := by split <;> simp
    omega
theorem ord_ok {many : Int} (hm : 0 < many) (p : Po) : ∀ n, OrdOk many p n (mOrd many p n)
  | 0 => ⟨rfl, trivial, rfl, (fun _ h => by cases h), (fun _ h => by cases h), Nat.le_refl _, Le.refl p⟩
  | n + 1 => by
    have h := ord_ok hm p n
    obtain ⟨k1, k2⟩ := key_facts hm (mOrd many p n) h.dk
    exact ordNext_ok h k1 k2
def sp_law_order : Sp := fun vs H Q _ => ∃ (G : Hp) (a : Addr) (p : Po) (many : Int) (size : Nat), vs = [.ref a, .int many, .int (size : Nat)] ∧ Same G H ∧ H a = some (poV p) ∧ G a = none ∧ PoOk p ∧ p.c + 100 ≤ 2 ^ 40 ∧ 0 < many ∧ many ≤ 16 ∧ size ≤ 8 ∧
  ∀ v G' H', Dr a G H G' H' (mOrd many p size).po → Dq G' v (.list ((mOrd many p size).fs.map stpD)) → Q v H'
/-! ### the ticks -/
structure TS where
  tick : Int
  es : List Ev
  po : Po
def pick (c x y : Int) : Int := if c = 0 then 0 else if c = 1 then 1 else if c = 2 then x else y
def timStep (wide : Int) (s : TS) (f : Stp) : TS :=
  let d1 := mDraw s.po 6
  let d2 := mDraw d1.2 wide
  let d3 := mDraw d2.2 4
  ⟨s.tick + pick d3.1 d1.1 d2.1, s.es ++ [⟨s.tick + pick d3.1 d1.1 d2.1, f.1, f.2⟩], d3.2⟩
def timGo (wide : Int) : TS → List Stp → TS
  | s, [] => s
  | s, f :: r => timGo wide (timStep wide s f) r
def mTimed (p : Po) (S : List Stp) (wide : Int) : TS := timGo wide ⟨(mDraw p (2 * wide)).1 - wide, [], (mDraw p (2 * wide)).2⟩ S
structure TimOk (p : Po) (S : List Stp) (s : TS) : Prop where
  stp : s.es.map Ev.stp = S
  asc : s.es.Pairwise fun a b => a.tick ≤ b.tick
  last : ∀ e ∈ s.es, e.tick ≤ s.tick
  le : Le p s.po (1 + 3 * S.length)
theorem timStep_ok {wide : Int} (hw : 0 < wide) {p : Po} {S : List Stp} {s : TS} (h : TimOk p S s) (f : Stp) : TimOk p (S ++ [f]) (timStep wide s f) := by
  have l1 := draw_le s.po (m := 6) (by decide)
  have i1 := draw_in s.po (m := 6) (by decide)
  have l2 := draw_le (mDraw s.po 6).2 hw
  have i2 := draw_in (mDraw s.po 6).2 hw
  have l3 := draw_le (mDraw (mDraw s.po 6).2 wide).2 (m := 4) (by decide)
  have hp : 0 ≤ pick (mDraw (mDraw (mDraw s.po 6).2 wide).2 4).1 (mDraw s.po 6).1 (mDraw (mDraw s.po 6).2 wide).1 := by
    unfold pick
    split
    · omega
    · split
      · omega
      · split
        · exact i1.1
        · exact i2.1
  unfold timStep
  dsimp only
  refine ⟨?_, ?_, ?_, (((h.le.trans l1).trans l2).trans l3).mono (by rw [List.length_append]; simp; omega)⟩
  · rw [List.map_append, h.stp]
    rfl
  · refine List.pairwise_append.mpr ⟨h.asc, List.pairwise_singleton _ _, fun x hx y hy => ?_⟩
    rw [List.mem_singleton.mp hy]
    have := h.last x hx
    show x.tick ≤ s.tick + _
    omega
  · intro e he
    rcases List.mem_append.mp he with z | z
    · have := h.last e z
      show e.tick ≤ s.tick + _
      omega
    · rw [List.mem_singleton.mp z]
      exact Int.le_refl _
theorem timGo_ok {wide : Int} (hw : 0 < wide) {p : Po} : ∀ {T S : List Stp} {s : TS}, TimOk p S s → TimOk p (S ++ T) (timGo wide s T)
  | [], S, s, h => by rw [List.append_nil]; exact h
  | f :: r, S, s, h => by
    have := timGo_ok hw (T := r) (timStep_ok hw h f)
    rw [List.append_assoc] at this
    exact this
theorem timed_ok {wide : Int} (hw : 0 < wide) (p : Po) (S : List Stp) : TimOk p S (mTimed p S wide) := by
  have l := draw_le p (m := 2 * wide) (by omega)
  exact timGo_ok hw (S := []) ⟨rfl, .nil, (fun _ h => by cases h), l⟩
def sp_law_timed : Sp := fun vs H Q _ => ∃ (G : Hp) (a : Addr) (p : Po) (u : V) (S : List Stp) (wide : Int), vs = [.ref a, u, .int wide] ∧ Same G H ∧ H a = some (poV p) ∧ G a = none ∧ PoOk p ∧ p.c + 100 ≤ 2 ^ 40 ∧ Dq G u (.list (S.map stpD)) ∧ S.length ≤ 8 ∧ 0 < wide ∧ wide ≤ 1000000 ∧
  ∀ v G' H', Dr a G H G' H' (mTimed p S wide).po → Dq G' v (recD (mTimed p S wide).es) → Q v H'
theorem cutN (xs : List V) (i : Nat) : cutV xs (some ((i : Int) + 1)) none = xs.drop (i + 1) := by
  unfold cutV
  have e1 : HT.sIx xs.length xs.length none = xs.length := rfl
  have e2 : HT.sIx xs.length 0 (some ((i : Int) + 1)) = min (i + 1) xs.length := by
    have : ((i : Int) + 1) = ((i + 1 : Nat) : Int) := by omega
    rw [this, HT.sIx_nat]
  rw [e1, e2, List.take_of_length_le (by simp)]
  by_cases h : i + 1 ≤ xs.length
  · rw [Nat.min_eq_left h]
  · rw [Nat.min_eq_right (by omega), List.drop_eq_nil_of_le (Nat.le_refl _), List.drop_eq_nil_of_le (by omega)]
/-! ### how near the halves come -/
def nearOf (half : List Int) (R : List Ev) (p : Nat × Ev) : List Int := if half.contains p.2.key then ((R.drop (p.1 + 1)).filter fun o => !half.contains o.key).map fun o => o.tick - p.2.tick else []
def nearL (R : List Ev) (half : List Int) : List Int := (enumL 0 R).flatMap (nearOf half R)
def sp_law_far : Sp := fun vs H Q _ => ∃ (v u : V) (R : List Ev) (half : List Int), vs = [v, u] ∧ Dq H v (recD R) ∧ Dq H u (intsD half) ∧ R.length ≤ 8 ∧ ∀ H', Same H H' → (nearL R half = [] → Q .non H') ∧ (∀ m, m ∈ nearL R half → (∀ y ∈ nearL R half, m ≤ y) → Q (.int m) H')
section
variable {P : Program} {w : World} {K : PySem.W.Frag} {mg : Str → Option Value} {base : Heap}
abbrev s_law_far : Stmt := top 67
abbrev N_law_far : List PySem.Str := ["_law_record", "_law_half", "_law_found", "_law_spot", "_law_event", "_law_other"]
abbrev P_law_far : List PySem.Str := ["_law_record", "_law_half"]
theorem sc_law_far : FnScope N_law_far P_law_far (defScope s_law_far) := ⟨rfl, rfl, rfl, by decide +kernel, rfl, by decide +kernel, by decide +kernel⟩
theorem ok_law_far {f : Addr} {fd : FuncData} (F : Fun K "_law_far" "_law_far" s_law_far f fd) (B : Bt mg) : FnOk P w K mg base CX0 1 f fd P_law_far sp_law_far := by
  refine F.ok sc_law_far (fun vs H Q E h => ?_) (fun cdv A outer s H vs Q E hr h => ?_)
  · obtain ⟨v, u, R, half, rfl, _⟩ := h
    rfl
  · obtain ⟨v, u, R, half, rfl, hv, hu, h8, k⟩ := h
    have nd := sc_law_far.nd
    obtain ⟨pa, xs, rfl, ha, ta⟩ := Dq.lstE hv
    obtain ⟨pb, ys, rfl, hb, tb⟩ := Dq.lstE hu
    obtain rfl := dp_intsE tb
    have hxl : xs.length = R.length := by rw [ta.length, List.length_map]
    refine ⟨_, (pss_cons (ps_set (i := 2) nd rfl (Or.inl rfl) (pe_lst pa_nil))
    (pss_cons (ps_for PassesOwn.never rfl (pi_enum (by rfl) B.enumerate (pa_cons (pv 0) pa_nil)) (pg_tupq (n := 2) rfl (pgs_cons (pg_name (i := 3) nd rfl (Or.inl rfl)) (pgs_cons (pg_name (i := 4) nd rfl (Or.inr rfl)) pgs_nil))) (pss_one (ps_if (pt_cmpR inLq (pe_ix ixtq (pv 4) pe_int (fun _ _ => rfl)) (pv 1) (by first | exact nomark _ | rfl)) (pss_one (ps_set (i := 2) nd rfl (Or.inl rfl) (pe_op op_cat (pv 2) (pe_lc (own := [("_law_other", 5)]) rfl nd (pi_list (pe_slice slLq (pv 0) (po_some (pe_op op_add (pv 3) pe_int)) po_none)) (blkOk_by (own := [("_law_other", 5)]) (N := N_law_far) (sc := defScope s_law_far) (by decide +kernel)) (fun _ _ _ _ _ => (pg_name (i := 5) nd rfl (Or.inl rfl))) (fun _ _ _ _ _ => (pts_one (pt_cmpR ninLq (pe_ix ixtq (pv 5) pe_int (fun _ _ => rfl)) (pv 1) (by first | exact nomark _ | rfl)))) (fun _ _ _ _ _ => (pe_op op_sub (pe_ix ixtq (pv 5) pe_int (fun _ _ => rfl)) (pe_ix ixtq (pv 4) pe_int (fun _ _ => rfl)))))))) pss_nil)))
    (pss_one (ps_ret (pe_ifExp (pt_cmpR (op_neQ hr.units) (pv 2) (pe_lst pa_nil) (by first | exact nomark _ | rfl)) (pe_callB (minq rfl) (by rfl) B.min (by decide +kernel) (pa_cons (pv 2) pa_nil)) pe_non))))), ?_⟩
    refine ⟨Nat.zero_le _, fun D hD => ?_⟩
    have s1 : Same H (upd H D (.lst [])) := same_new hD
    have hD1 : (upd H D (.lst [])) D = some (.lst []) := upd_same
    generalize upd H D (.lst []) = H1 at s1 hD1 ⊢
    refine ⟨_, rfl, pa, xs, rfl, sqL (s1 _ _ ha), ?_⟩
    refine for_it (walkE (K := K) (a := pa) (xs := xs)) (fun i σ H' => ∃ v3 v4 v5 q ns, σ = [some (.ref pa), some (.ref pb), some (.ref q), v3, v4, v5] ∧ Same H H' ∧ H' q = some (.lst (ns.map V.int)) ∧ ns ++ (enumL i (R.drop i)).flatMap (nearOf half R) = nearL R half ∧ ns.length ≤ 8 * i)
      ⟨none, none, none, D, [], rfl, s1, hD1, rfl, Nat.le_refl _⟩ (fun i σ H' _ h => ?_) (fun i y σ H2 H3 hi h yy => ?_) fun σ H2 h => ?_
    · obtain ⟨_, _, _, _, _, _, s2, _⟩ := h
      exact s2 _ _ ha
    · obtain ⟨v3, v4, v5, q, ns, rfl, s2, hq, hns, hnl⟩ := h
      obtain ⟨T, x1, y1, rfl, hT, rfl, e1, e2⟩ := yy
      cases e1
      obtain ⟨e, ee, dv⟩ := getV_map ta e2
      obtain ⟨pe, rfl, hpe⟩ := ev_parts dv
      have hi2 : i < R.length := (List.getElem?_eq_some_iff.mp ee).1
      have edr : R.drop i = e :: R.drop (i + 1) := by
        rw [List.drop_eq_getElem_cons hi2, (List.getElem?_eq_some_iff.mp ee).2]
      rw [edr] at hns
      have hns' : ns ++ (nearOf half R (i, e) ++ (enumL (i + 1) (R.drop (i + 1))).flatMap (nearOf half R)) = nearL R half := hns
      have sT : Same H2 (upd H2 T (.tup [.int (i : Nat), .ref pe])) := same_new hT
      have hTT : (upd H2 T (.tup [.int (i : Nat), .ref pe])) T = some (.tup [.int (i : Nat), .ref pe]) := upd_same
      generalize upd H2 T (.tup [.int (i : Nat), .ref pe]) = HT at sT hTT ⊢
      have s3 := s2.trans sT
      refine ⟨T, _, rfl, hTT, rfl, _, _, rfl, _, _, rfl, rfl, ?_⟩
      refine ⟨_, rfl, pe, _, _, _, rfl, rfl, s3 _ _ hpe, atI_nat (j := 1) rfl, _, rfl, pb, _, rfl, s3 _ _ hb, rfl, flat_ints half, _, rfl, ?_⟩
      rw [inV_ints]
      refine iteB (fun h => ?_) fun h => ?_
      · have enear : nearOf half R (i, e) = ((R.drop (i + 1)).filter fun o => !half.contains o.key).map fun o => o.tick - e.tick := by
          unfold nearOf
          rw [if_pos h]
        refine ⟨_, rfl, _, rfl, _, rfl, _, _, rfl, rfl, _, rfl, pa, xs, rfl, s3 _ _ ha, fun z hz => ?_⟩
        have ecut := cutN xs i
        rw [ecut]
        have sz : Same HT (upd HT z (.lst (xs.drop (i + 1)))) := same_new hz
        have hzz : (upd HT z (.lst (xs.drop (i + 1)))) z = some (.lst (xs.drop (i + 1))) := upd_same
        generalize upd HT z (.lst (xs.drop (i + 1))) = Hz at sz hzz ⊢
        have s4 := s3.trans sz
        refine ⟨z, rfl, ⟨_, sqL hzz⟩, fun D2 hD2 => ?_⟩
        have td : DqAll H (xs.drop (i + 1)) ((R.drop (i + 1)).map Ev.d) := by rw [List.map_drop]; exact ta.drop (i + 1)
        refine lcD (G := H) (G1 := H) (fun j => ((R.drop (i + 1))[j]?).bind fun o => if (!half.contains o.key) = true then some (.int (o.tick - e.tick)) else none) (walkL (K := K) (a := z) (xs := xs.drop (i + 1))) (by rw [List.length_drop]; omega) ((Gr.refl (Same.refl H)).same s4) (fun Gj Hj gj => gj.keep _ _ hzz) hD2 (fun j y Gj Hj H' Ok No hj gj yy ok no => ?_) fun G5 H5 g5 g5' dq => ?_
        · obtain ⟨rfl, hy⟩ := yy
          obtain ⟨o, eo, dvo⟩ := getV_map td hy
          obtain ⟨po, rfl, hpo⟩ := ev_parts dvo
          have efull : (((R.drop (i + 1))[j]?).bind fun o => if (!half.contains o.key) = true then some (PyData.int (o.tick - e.tick)) else none) = if (!half.contains o.key) = true then some (.int (o.tick - e.tick)) else none := by rw [eo]; rfl
          have s5 := s4.trans gj.keep
          refine ⟨rfl, _, rfl, po, _, _, _, rfl, rfl, s5 _ _ hpo, atI_nat (j := 1) rfl, _, rfl, pb, _, rfl, s5 _ _ hb, rfl, flat_ints half, _, rfl, ?_⟩
          rw [inV_ints]
          refine iteB (fun h2 => ?_) fun h2 => no Gj _ (Gr.refl gj.sub) ?_
          · refine ⟨_, rfl, po, _, _, _, rfl, rfl, s5 _ _ hpo, atI_nat (j := 0) rfl, _, rfl, pe, _, _, _, rfl, rfl, s5 _ _ hpe, atI_nat (j := 0) rfl, _, _, rfl, rfl, ok _ Gj _ _ (Gr.refl gj.sub) (.int _) ?_⟩
            show (((R.drop (i + 1))[j]?).bind _) = _
            rw [efull, if_pos h2]
          · show (((R.drop (i + 1))[j]?).bind _) = _
            rw [efull, h2]
            rfl
        · have e3 : made (fun j => ((R.drop (i + 1))[j]?).bind fun o => if (!half.contains o.key) = true then some (PyData.int (o.tick - e.tick)) else none) (xs.drop (i + 1)).length = (nearOf half R (i, e)).map PyData.int := by
            have el : (xs.drop (i + 1)).length = (R.drop (i + 1)).length := by rw [td.length, List.length_map]
            rw [el, made_get, enear, List.map_map]
            exact fm_if (fun o : Ev => !half.contains o.key) (fun o => PyData.int (o.tick - e.tick)) _
          rw [e3] at dq
          obtain ⟨D2', rs, e4, hDs, trs⟩ := dq.lstE
          cases e4
          obtain rfl := dp_intsE trs
          have hnear : (nearOf half R (i, e)).length ≤ 8 := by
            rw [enear, List.length_map]
            exact Nat.le_trans (List.length_filter_le _ _) (by rw [List.length_drop]; omega)
          refine ⟨q, D2, _, _, rfl, rfl, g5'.keep _ _ (sz _ _ (sT _ _ hq)), g5.sub _ _ hDs, small (by rw [List.length_map, List.length_map]; omega), fun r hr2 => ?_⟩
          refine ⟨_, _, _, r, ns ++ nearOf half R (i, e), rfl, (s4.trans g5'.keep).trans (same_new hr2), by rw [upd_same, List.map_append], by rw [List.append_assoc]; exact hns', by rw [List.length_append]; omega⟩
      · have enear : nearOf half R (i, e) = [] := by
          unfold nearOf
          rw [if_neg (by rw [h]; exact nofun)]
        refine ⟨_, _, _, q, ns, rfl, s3, sT _ _ hq, ?_, by omega⟩
        rw [enear] at hns'
        exact hns'
    · obtain ⟨v3, v4, v5, q, ns, rfl, s2, hq, hns, hnl⟩ := h
      have e1 : R.drop xs.length = [] := List.drop_eq_nil_of_le (by omega)
      rw [e1] at hns
      have hns2 : ns = nearL R half := by rw [← hns]; simp [enumL]
      subst hns2
      have fi : Fine 1 (.list ((nearL R half).map PyData.int)) := by
        intro x hx
        obtain ⟨m, _, rfl⟩ := List.mem_map.mp hx
        trivial
      refine ⟨_, rfl, Nat.zero_le _, fun z hz => ?_⟩
      have hqz := (same_new (o := .lst []) hz) _ _ hq
      refine ⟨1, .list ((nearL R half).map PyData.int), .list [], ls hqz dp_ints, ls upd_same .nil, by decide, fi, (fun _ h => by cases h), fun c hc => ⟨c, rfl, ?_⟩⟩
      obtain ⟨k1, k2⟩ := k _ (s2.trans (same_new (o := .lst []) hz))
      refine iteB (fun h => ?_) fun h => ?_
      · refine ⟨_, rfl, q, nearL R half, rfl, hqz, ?_, fun m hm hle => k2 m hm hle⟩
        have : nearL R half ≠ [] := fun e => (hc.mp h) (by rw [e]; rfl)
        exact List.length_pos_iff.mpr this
      · refine k1 ?_
        by_cases e : nearL R half = []
        · exact e
        · have := hc.mpr (fun z => e (by
            have : (nearL R half).map PyData.int = [] := PyData.list.inj z
            exact List.map_eq_nil_iff.mp this))
          rw [h] at this
          cases this
end
end HT8
end partW24
section partW25
set_option Elab.async false
set_option linter.all false
set_option maxRecDepth 100000
namespace HT8
open PySem PySem.Spec PyProof.Rows L2 HT5 HT6 HT7
theorem Dr.same {a : Addr} {G H Gi Hi H2 : Hp} {p : Po} (d : Dr a G H Gi Hi p) (s : Same Hi H2) : Dr a G H Gi H2 p := d.gr ((Gr.refl d.sub).same s)
theorem Dr.setD {a D : Addr} {G H Gi Hi : Hp} {p : Po} {o : HO} (d : Dr a G H Gi Hi p) (h0 : H D = none) (h1 : Gi D = none) (n : D ≠ a) : Dr a G H Gi (upd Hi D o) p := ⟨GrP.setD d.g h0 h1, by rw [upd_ne n.symm]; exact d.ha, d.ga⟩
section
variable {P : Program} {w : World} {K : PySem.W.Frag} {mg : Str → Option Value} {base : Heap}
abbrev s_law_timed : Stmt := top 66
abbrev N_law_timed : List PySem.Str := ["_law_pool_here", "_law_order_here", "_law_wide", "_law_tick", "_law_found", "_law_key", "_law_way"]
abbrev P_law_timed : List PySem.Str := ["_law_pool_here", "_law_order_here", "_law_wide"]
theorem sc_law_timed : FnScope N_law_timed P_law_timed (defScope s_law_timed) := ⟨rfl, rfl, rfl, by decide +kernel, rfl, by decide +kernel, by decide +kernel⟩
theorem ok_law_timed {f : Addr} {fd : FuncData} (F : Fun K "_law_timed" "_law_timed" s_law_timed f fd) (c__law_draw : C8.Cal P w K mg base 1 "_law_draw" sp_law_draw []) : FnOk P w K mg base CX0 2 f fd P_law_timed sp_law_timed := by
  refine F.ok sc_law_timed (fun vs H Q E h => ?_) (fun cdv A outer s H vs Q E hr h => ?_)
  · obtain ⟨G, a, p, u, S, wide, rfl, _⟩ := h
    rfl
  · obtain ⟨G, a, p, u, S, wide, rfl, sG, ha, ga, hp, hpc, hu, hS, hw0, hw1, k⟩ := h
    have nd := sc_law_timed.nd
    obtain ⟨pu, xs, rfl, hpu, tu⟩ := hu.lstE
    have hxl : xs.length = S.length := by rw [tu.length, List.length_map]
    refine ⟨_, (pss_cons (ps_par (i := 3) (j := 4) (by rfl) nd rfl rfl (by decide) rfl rfl (pa_cons (pe_op op_sub (C8.pe_c c__law_draw hr (by decide) rfl (pa_cons (pv 0) (pa_cons (pe_op op_mulW pe_int (pv 2)) pa_nil))) (pv 2)) (pa_cons (pe_lst pa_nil) pa_nil)) (by rfl))
    (pss_cons (ps_for PassesOwn.never rfl (pi_list (pv 1)) (pg_tupq (n := 2) rfl (pgs_cons (pg_name (i := 5) nd rfl (Or.inl rfl)) (pgs_cons (pg_name (i := 6) nd rfl (Or.inl rfl)) pgs_nil))) (pss_cons (ps_set (i := 3) nd rfl (Or.inl rfl) (pe_op op_add (pv 3) (pe_ix ixlq (pe_lst (pa_cons pe_int (pa_cons pe_int (pa_cons (C8.pe_c c__law_draw hr (by decide) rfl (pa_cons (pv 0) (pa_cons pe_int pa_nil))) (pa_cons (C8.pe_c c__law_draw hr (by decide) rfl (pa_cons (pv 0) (pa_cons (pv 2) pa_nil))) pa_nil))))) (C8.pe_c c__law_draw hr (by decide) rfl (pa_cons (pv 0) (pa_cons pe_int pa_nil))) (fun _ _ => rfl))))
    (pss_one (ps_expr (pe_bm PySem.F.plainAttrs_list PySem.F.slot_list_append PySem.F.type_list_append mt_append (pv 4) (pa_cons (pe_tup (pa_cons (pv 3) (pa_cons (pv 5) (pa_cons (pv 6) pa_nil)))) pa_nil))))))
    (pss_one (ps_ret (pv 4))))), ?_⟩
    have k1 := k
    unfold mTimed at k1
    have d0 := Dr.start sG ha ga
    have l1 := draw_le p (m := 2 * wide) (by omega)
    have o1 := l1.ok hp (by omega)
    have c1 := l1.c1
    have d1 : Dr a G H G (upd H a (poV (mDraw p (2 * wide)).2)) (mDraw p (2 * wide)).2 := d0.draw
    refine ⟨_, rfl, _, rfl, _, _, rfl, rfl, wide_mul (a := 3) (b := 30) (by decide) (by omega) (by decide) (by decide) (by decide), a, p, 2 * wide, rfl, ha, hp, by omega, by omega, _, rfl, _, _, rfl, rfl, Nat.zero_le _, fun D hD => ⟨_, _, rfl, ?_⟩⟩
    generalize upd H a (poV (mDraw p (2 * wide)).2) = H1 at d1 hD ⊢
    have nDa : D ≠ a := fun e => by rw [e, d1.ha] at hD; cases hD
    have hDH : H D = none := by
      cases q : H D with
      | none => rfl
      | some x =>
        have := d1.g.keep _ _ nDa q
        rw [hD] at this; cases this
    have gD : G D = none := sG.free hDH
    generalize mDraw p (2 * wide) = x1 at d1 k1 l1 o1 c1 ⊢
    have d2 := d1.gr ((Gr.refl d1.sub).tmp (o := .lst []) hD)
    have hD2 : (upd H1 D (.lst [])) D = some (.lst []) := upd_same
    generalize upd H1 D (.lst []) = H2 at d2 hD2 ⊢
    refine ⟨_, rfl, pu, rfl, ⟨_, sqL (d2.sub _ _ hpu)⟩, ?_⟩
    refine for_it (walkL (K := K) (a := pu) (xs := xs)) (fun i σ H' => ∃ v5 v6 Gi acc s, σ = [some (.ref a), some (.ref pu), some (.int wide), some (.int s.tick), some (.ref D), v5, v6] ∧ Dr a G H Gi H' s.po ∧ H' D = some (.lst acc) ∧ Gi D = none ∧ DqAll Gi acc (s.es.map Ev.d) ∧ s.es.length ≤ i ∧ Le x1.2 s.po (3 * i) ∧ timGo wide s (S.drop i) = timGo wide ⟨x1.1 - wide, [], x1.2⟩ S)
      ⟨none, none, G, [], ⟨x1.1 - wide, [], x1.2⟩, rfl, d2, hD2, gD, .nil, Nat.le_refl _, Le.refl _, rfl⟩ (fun i σ H' _ h => ?_) (fun i y σ H3 H4 hi h yy => ?_) fun σ H3 h => ?_
    · obtain ⟨_, _, _, _, _, _, d, _⟩ := h
      exact d.sub _ _ (d.g.ext _ _ hpu)
    · obtain ⟨v5, v6, Gi, acc, s, rfl, d, hDi, gDi, hacc, hel, hle, hgo⟩ := h
      obtain ⟨rfl, hy⟩ := yy
      obtain ⟨⟨key, dn⟩, es, dv⟩ := getV_map tu hy
      obtain ⟨pe, rfl, hpe⟩ := stp_parts dv
      have hi2 : i < S.length := (List.getElem?_eq_some_iff.mp es).1
      have edr : S.drop i = (key, dn) :: S.drop (i + 1) := by
        rw [List.drop_eq_getElem_cons hi2, (List.getElem?_eq_some_iff.mp es).2]
      rw [edr] at hgo
      have hgo' : timGo wide (timStep wide s (key, dn)) (S.drop (i + 1)) = timGo wide ⟨x1.1 - wide, [], x1.2⟩ S := hgo
      unfold timStep at hgo'
      dsimp only at hgo'
      have hc := hle.c1
      have os := hle.ok o1 (by omega)
      refine ⟨pe, _, rfl, d.sub _ _ (d.g.ext _ _ hpe), rfl, _, _, rfl, _, _, rfl, rfl, ?_⟩
      -- the draws
      have m1 := draw_le s.po (m := 6) (by decide)
      have e1 : Dr a G H Gi (upd H4 a (poV (mDraw s.po 6).2)) (mDraw s.po 6).2 := d.draw
      have hD4 : (upd H4 a (poV (mDraw s.po 6).2)) D = some (.lst acc) := by rw [upd_ne nDa]; exact hDi
      have p1 := (hle.trans m1).ok o1 (by omega)
      refine ⟨_, rfl, _, rfl, a, s.po, 6, rfl, d.ha, os, by decide, by decide, ?_⟩
      generalize upd H4 a (poV (mDraw s.po 6).2) = H5 at e1 hD4 ⊢
      generalize mDraw s.po 6 = y1 at e1 m1 p1 hgo' ⊢
      have m2 := draw_le y1.2 hw0
      have e2 : Dr a G H Gi (upd H5 a (poV (mDraw y1.2 wide).2)) (mDraw y1.2 wide).2 := e1.draw
      have hD5 : (upd H5 a (poV (mDraw y1.2 wide).2)) D = some (.lst acc) := by rw [upd_ne nDa]; exact hD4
      have p2 := ((hle.trans m1).trans m2).ok o1 (by omega)
      refine ⟨_, rfl, _, rfl, a, y1.2, wide, rfl, e1.ha, p1, hw0, by omega, by show 4 ≤ sizeLine; decide, fun l hl => ?_⟩
      generalize upd H5 a (poV (mDraw y1.2 wide).2) = H6 at e2 hD5 hl ⊢
      generalize mDraw y1.2 wide = y2 at e2 m2 p2 hgo' hl ⊢
      have e3 := e2.gr ((Gr.refl e2.sub).tmp (o := .lst [.int 0, .int 1, .int y1.1, .int y2.1]) hl)
      have hl3 : (upd H6 l (.lst [.int 0, .int 1, .int y1.1, .int y2.1])) l = some (.lst [.int 0, .int 1, .int y1.1, .int y2.1]) := upd_same
      have nDl : D ≠ l := ne_of_none hD5 hl
      have hD6 : (upd H6 l (.lst [.int 0, .int 1, .int y1.1, .int y2.1])) D = some (.lst acc) := by rw [upd_ne nDl]; exact hD5
      generalize upd H6 l (.lst [.int 0, .int 1, .int y1.1, .int y2.1]) = H7 at e3 hl3 hD6 ⊢
      have nla : l ≠ a := fun e => by rw [e, e3.ha] at hl3; exact absurd (HO.lst.inj (Option.some.inj hl3)) (by intro z; simp at z)
      have m3 := draw_le y2.2 (m := 4) (by decide)
      have i3 := draw_in y2.2 (m := 4) (by decide)
      have e4 : Dr a G H Gi (upd H7 a (poV (mDraw y2.2 4).2)) (mDraw y2.2 4).2 := e3.draw
      have hD7 : (upd H7 a (poV (mDraw y2.2 4).2)) D = some (.lst acc) := by rw [upd_ne nDa]; exact hD6
      have hl4 : (upd H7 a (poV (mDraw y2.2 4).2)) l = some (.lst [.int 0, .int 1, .int y1.1, .int y2.1]) := by rw [upd_ne nla]; exact hl3
      have epick : atI [V.int 0, .int 1, .int y1.1, .int y2.1] (mDraw y2.2 4).1 = some (.int (pick (mDraw y2.2 4).1 y1.1 y2.1)) := by
        have : (mDraw y2.2 4).1 = 0 ∨ (mDraw y2.2 4).1 = 1 ∨ (mDraw y2.2 4).1 = 2 ∨ (mDraw y2.2 4).1 = 3 := by omega
        rcases this with e | e | e | e <;> rw [e] <;> rfl
      refine ⟨_, rfl, a, y2.2, 4, rfl, e3.ha, p2, by decide, by decide, l, _, _, _, rfl, rfl, hl4, epick, _, _, rfl, rfl, ?_⟩
      generalize upd H7 a (poV (mDraw y2.2 4).2) = H8 at e4 hD7 ⊢
      generalize mDraw y2.2 4 = y3 at e4 m3 hgo' ⊢
      refine ⟨_, rfl, .inl ⟨rfl, acc, sqL hD7⟩, _, rfl, _, rfl, _, rfl, by show 3 ≤ sizeLine; decide, fun z hz => ?_⟩
      have e5 := e4.gr ((Gr.refl e4.sub).fr (o := .tup [.int (s.tick + pick y3.1 y1.1 y2.1), .int key, .str (wayS dn)]) hz)
      have gzn : Gi z = none := e4.sub.free hz
      have dz : Dq (upd Gi z (.tup [.int (s.tick + pick y3.1 y1.1 y2.1), .int key, .str (wayS dn)])) (.ref z) (Ev.mk (s.tick + pick y3.1 y1.1 y2.1) key dn).d := newT gzn (.three (.int _) (.int _) (.str _))
      have nDz : D ≠ z := ne_of_none hD7 hz
      have hD8 : (upd H8 z (.tup [.int (s.tick + pick y3.1 y1.1 y2.1), .int key, .str (wayS dn)])) D = some (.lst acc) := by rw [upd_ne nDz]; exact hD7
      have gD8 : (upd Gi z (.tup [.int (s.tick + pick y3.1 y1.1 y2.1), .int key, .str (wayS dn)])) D = none := by rw [upd_ne nDz]; exact gDi
      have hal : acc.length = s.es.length := by rw [hacc.length, List.length_map]
      refine ⟨D, acc, .ref z, rfl, rfl, hD8, small1000 (by omega), ?_⟩
      refine ⟨_, _, _, acc ++ [.ref z], ⟨s.tick + pick y3.1 y1.1 y2.1, s.es ++ [⟨s.tick + pick y3.1 y1.1 y2.1, key, dn⟩], y3.2⟩, rfl, e5.setD hDH gD8 nDa, upd_same, gD8, ?_, by simp; omega, (((hle.trans m1).trans m2).trans m3).mono (by omega), hgo'⟩
      rw [List.map_append]
      exact dq_snoc (hacc.of (same_upd gzn)) dz
    · obtain ⟨v5, v6, Gi, acc, s, rfl, d, hDi, gDi, hacc, hel, hle, hgo⟩ := h
      have e1 : S.drop xs.length = [] := List.drop_eq_nil_of_le (by omega)
      rw [e1] at hgo
      have hgo' : s = timGo wide ⟨x1.1 - wide, [], x1.2⟩ S := hgo
      rw [← hgo'] at k1
      refine ⟨_, rfl, k1 _ (upd Gi D (.lst acc)) _ ⟨GrP.freeze d.g hDH hDi, d.ha, by rw [upd_ne nDa.symm]; exact d.ga⟩ (ls upd_same (hacc.of (same_upd gDi)))⟩
abbrev s_law_order : Stmt := top 65
abbrev N_law_order : List PySem.Str := ["_law_pool_here", "_law_many", "_law_size", "_law_down", "_law_found", "_law_turn", "_law_key", "_law_one"]
abbrev P_law_order : List PySem.Str := ["_law_pool_here", "_law_many", "_law_size"]
theorem sc_law_order : FnScope N_law_order P_law_order (defScope s_law_order) := ⟨rfl, rfl, rfl, by decide +kernel, rfl, by decide +kernel, by decide +kernel⟩
theorem ok_law_order {f : Addr} {fd : FuncData} (F : Fun K "_law_order" "_law_order" s_law_order f fd) (B : Bt mg) (c__law_draw : C8.Cal P w K mg base 1 "_law_draw" sp_law_draw []) : FnOk P w K mg base CX0 2 f fd P_law_order sp_law_order := by
  refine F.ok sc_law_order (fun vs H Q E h => ?_) (fun cdv A outer s H vs Q E hr h => ?_)
  · obtain ⟨G, a, p, many, size, rfl, _⟩ := h
    rfl
  · obtain ⟨G, a, p, many, size, rfl, sG, ha, ga, hp, hpc, hm0, hm1, hsz, k⟩ := h
    have nd := sc_law_order.nd
    refine ⟨_, (pss_cons (ps_par (i := 3) (j := 4) (by rfl) nd rfl rfl (by decide) rfl rfl (pa_cons (pe_lst pa_nil) (pa_cons (pe_lst pa_nil) pa_nil)) (by rfl))
    (pss_cons (ps_for PassesOwn.never rfl (pi_range1 rfl B.range (pa_cons (pv 2) pa_nil)) (pg_name (i := 5) nd rfl (Or.inl rfl)) (pss_cons (ps_set (i := 6) nd rfl (Or.inr rfl) (C8.pe_c c__law_draw hr (by decide) rfl (pa_cons (pv 0) (pa_cons (pv 1) pa_nil))))
    (C8.pss_cut (ps_if (PW.pt (pw_and (pt_cmpR (op_neQ hr.units) (pv 3) (pe_lst pa_nil) (by first | exact nomark _ | rfl)) (pw_and1 (pt_cmpR op_eq (C8.pe_c c__law_draw hr (by decide) rfl (pa_cons (pv 0) (pa_cons pe_int pa_nil))) pe_int (by first | exact nomark _ | rfl))))) (pss_one (ps_set (i := 6) nd rfl (Or.inr rfl) (pe_ix ixlq (pv 3) (C8.pe_c c__law_draw hr (by decide) rfl (pa_cons (pv 0) (pa_cons (pe_callB lenLq (by rfl) B.len (by decide +kernel) (pa_cons (pv 3) pa_nil)) pa_nil))) (fun _ _ => rfl)))) pss_nil)
    (pss_cons (ps_expr (pe_bm PySem.F.plainAttrs_list PySem.F.slot_list_append PySem.F.type_list_append mt_append (pv 4) (pa_cons (pe_tup (pa_cons (pv 6) (pa_cons (pe_ix ixlq (pe_lst (pa_cons pe_str (pa_cons pe_str pa_nil))) (pe_callTy call_int1 (by rfl) B.int (by decide +kernel) (pa_cons (pe_cmpR inLq (pv 6) (pv 3) (by first | exact nomark _ | rfl)) pa_nil)) (fun _ _ => rfl)) pa_nil))) pa_nil)))
    (pss_one (ps_set (i := 3) nd rfl (Or.inl rfl) (pe_op op_cat (pe_lc (own := [("_law_one", 7)]) rfl nd (pi_list (pv 3)) (blkOk_by (own := [("_law_one", 7)]) (N := N_law_order) (sc := defScope s_law_order) (by decide +kernel)) (fun _ _ _ _ _ => (pg_name (i := 7) nd rfl (Or.inl rfl))) (fun _ _ _ _ _ => (pts_one (pt_cmpR op_ne (pv 7) (pv 6) (by first | exact nomark _ | rfl)))) (fun _ _ _ _ _ => (pv 7))) (pe_op op_rep (pe_lst (pa_cons (pv 6) pa_nil)) (pe_callTy call_int1 (by rfl) B.int (by decide +kernel) (pa_cons (pe_cmpR ninLq (pv 6) (pv 3) (by first | exact nomark _ | rfl)) pa_nil))))))))))
    (pss_one (ps_ret (pv 4))))), ?_⟩
    have d0 := Dr.start sG ha ga
    refine ⟨Nat.zero_le _, fun D3 hD3 => ⟨Nat.zero_le _, fun D4 hD4 => ⟨_, _, rfl, ?_⟩⟩⟩
    have d1 := d0.gr ((Gr.refl sG).fr (o := .lst []) hD3)
    have g3 : (upd G D3 (.lst [])) D3 = some (.lst []) := upd_same
    generalize upd G D3 (.lst []) = G1 at d1 g3
    have hD4H : H D4 = none := by
      cases q : H D4 with
      | none => rfl
      | some x =>
        rw [upd_ne (ne_of_none q hD3), q] at hD4
        cases hD4
    generalize upd H D3 (.lst []) = H1 at d1 hD4 ⊢
    have nDa : D4 ≠ a := fun e => by rw [e, d1.ha] at hD4; cases hD4
    have gD4 : G1 D4 = none := d1.sub.free hD4
    have d2 := d1.gr ((Gr.refl d1.sub).tmp (o := .lst []) hD4)
    have h4 : (upd H1 D4 (.lst [])) D4 = some (.lst []) := upd_same
    generalize upd H1 D4 (.lst []) = H2 at d2 h4 ⊢
    refine ⟨_, rfl, _, rfl, by omega, by omega, ?_⟩
    have esz : ((size : Nat) : Int).toNat = size := by omega
    rw [esz]
    refine for_it (walk_range (lo := 0) (n := size)) (fun i σ H' => ∃ v5 v6 v7 Gi q3 acc, σ = [some (.ref a), some (.int many), some (.int (size : Nat)), some (.ref q3), some (.ref D4), v5, v6, v7] ∧ Dr a G H Gi H' (mOrd many p i).po ∧ Gi q3 = some (.lst ((mOrd many p i).dl.map V.int)) ∧ H' D4 = some (.lst acc) ∧ Gi D4 = none ∧ DqAll Gi acc ((mOrd many p i).fs.map stpD))
      ⟨none, none, none, G1, D3, [], rfl, d2, g3, h4, gD4, .nil⟩ (fun _ _ _ _ _ => trivial) (fun i y σ H3 H4 hi h yy => ?_) fun σ H3 h => ?_
    · obtain ⟨v5, v6, v7, Gi, q3, acc, rfl, d, hq3, hD, gD, hacc⟩ := h
      obtain ⟨rfl, hy⟩ := yy
      have hok := ord_ok hm0 p i
      have hle := hok.le
      have hc := hle.c1
      have hdn := hok.dn
      have hfl := hok.len
      have hst : mOrd many p (i + 1) = ordStep many (mOrd many p i) := rfl
      generalize mOrd many p i = st at d hq3 hacc hok hle hc hdn hfl hst
      have os := hle.ok hp (by omega)
      have hal : acc.length = st.fs.length := by rw [hacc.length, List.length_map]
      -- the key: two ways, joined
      have m1 := draw_le st.po hm0
      have e1 : Dr a G H Gi (upd H4 a (poV (mDraw st.po many).2)) (mDraw st.po many).2 := d.draw
      have hD5 : (upd H4 a (poV (mDraw st.po many).2)) D4 = some (.lst acc) := by rw [upd_ne nDa]; exact hD
      refine ⟨_, rfl, _, rfl, a, st.po, many, rfl, d.ha, os, hm0, by omega, ?_⟩
      have ek0 : ordKey many st = (if st.dl = [] then mDraw st.po many
        else if (mDraw (mDraw st.po many).2 2).1 = 0 then
          (st.dl.getD (mDraw (mDraw (mDraw st.po many).2 2).2 st.dl.length).1.toNat 0, (mDraw (mDraw (mDraw st.po many).2 2).2 st.dl.length).2)
        else ((mDraw st.po many).1, (mDraw (mDraw st.po many).2 2).2)) := rfl
      have p1 := m1.ok os (by omega)
      have pc1 := m1.c1
      generalize upd H4 a (poV (mDraw st.po many).2) = H5 at e1 hD5 ⊢
      generalize mDraw st.po many = y1 at e1 m1 p1 pc1 ek0 ⊢
      -- what follows the choice of the key
      refine ⟨fun σ H6 => ∃ kk qq, σ = [some (.ref a), some (.int many), some (.int (size : Nat)), some (.ref q3), some (.ref D4), some y, some (.int kk), v7] ∧ Dr a G H Gi H6 qq ∧ H6 D4 = some (.lst acc) ∧ ordKey many st = (kk, qq), ?_, ?_⟩
      · -- if down != [] and draw(2) == 0
        refine ⟨_, rfl, Nat.zero_le _, fun z hz => ?_⟩
        have ez := e1.gr ((Gr.refl e1.sub).tmp (o := .lst []) hz)
        have hzz : (upd H5 z (.lst [])) z = some (.lst []) := upd_same
        have hDz : (upd H5 z (.lst [])) D4 = some (.lst acc) := by rw [upd_ne (ne_of_none hD5 hz)]; exact hD5
        generalize upd H5 z (.lst []) = H6 at ez hzz hDz ⊢
        have fi : Fine 1 (.list (st.dl.map PyData.int)) := by
          intro x hx
          obtain ⟨m, _, rfl⟩ := List.mem_map.mp hx
          trivial
        refine ⟨1, .list (st.dl.map PyData.int), .list [], ls (ez.sub _ _ hq3) dp_ints, ls hzz .nil, by decide, fi, (fun _ h => by cases h), fun c hcc => ⟨c, rfl, iteB (fun h => ?_) fun h => ?_⟩⟩
        · have hne : st.dl ≠ [] := fun e => (hcc.mp h) (by rw [e]; rfl)
          rw [if_neg hne] at ek0
          have m2 := draw_le y1.2 (m := 2) (by decide)
          have p2 := m2.ok p1 (by omega)
          have pc2 := m2.c1
          have e2 : Dr a G H Gi (upd H6 a (poV (mDraw y1.2 2).2)) (mDraw y1.2 2).2 := ez.draw
          have hD6 : (upd H6 a (poV (mDraw y1.2 2).2)) D4 = some (.lst acc) := by rw [upd_ne nDa]; exact hDz
          refine ⟨_, rfl, a, y1.2, 2, rfl, ez.ha, p1, by decide, by decide, rfl, _, rfl, ?_⟩
          generalize upd H6 a (poV (mDraw y1.2 2).2) = H7 at e2 hD6 ⊢
          generalize mDraw y1.2 2 = y2 at e2 m2 p2 pc2 ek0 ⊢
          refine iteB (fun h2 => ?_) fun h2 => ?_
          · have h2' : y2.1 = 0 := by simpa using h2
            rw [if_pos h2'] at ek0
            have hpos : 0 < (st.dl.length : Int) := by
              cases e : st.dl with
              | nil => exact absurd e hne
              | cons a r => rw [List.length_cons]; omega
            have i3 := draw_in y2.2 hpos
            have e3 : Dr a G H Gi (upd H7 a (poV (mDraw y2.2 st.dl.length).2)) (mDraw y2.2 st.dl.length).2 := e2.draw
            have hD7 : (upd H7 a (poV (mDraw y2.2 st.dl.length).2)) D4 = some (.lst acc) := by rw [upd_ne nDa]; exact hD6
            refine ⟨_, rfl, _, rfl, _, rfl, q3, _, rfl, e2.sub _ _ hq3, ?_⟩
            rw [List.length_map]
            refine ⟨a, y2.2, st.dl.length, rfl, e2.ha, p2, hpos, by omega, q3, st.dl.map V.int, _, .int (st.dl.getD (mDraw y2.2 st.dl.length).1.toNat 0), rfl, rfl, e3.sub _ _ hq3, ?_, ?_⟩
            · rw [atI_int i3.1 (by rw [List.length_map]; exact i3.2)]
              exact int_at (by omega)
            · exact ⟨_, _, rfl, e3, hD7, ek0⟩
          · have h2' : ¬ y2.1 = 0 := by simpa using h2
            rw [if_neg h2'] at ek0
            exact ⟨_, _, rfl, e2, hD6, ek0⟩
        · have he : st.dl = [] := by
            by_cases e : st.dl = []
            · exact e
            · have := hcc.mpr (fun z => e (by
                have : st.dl.map PyData.int = [] := PyData.list.inj z
                exact List.map_eq_nil_iff.mp this))
              rw [h] at this
              cases this
          rw [if_pos he] at ek0
          exact ⟨_, _, rfl, ez, hDz, by rw [ek0]⟩
      · rintro σ H6 ⟨kk, qq, rfl, e6, hD6, ekk⟩
        have hnx : mOrd many p (i + 1) = ordNext kk qq st := by
          rw [hst]
          unfold ordStep
          rw [ekk]
        -- found.append((key, [..][..]))
        refine ⟨_, rfl, .inl ⟨rfl, acc, sqL hD6⟩, _, rfl, by show 2 ≤ sizeLine; decide, fun l hl => ?_⟩
        have e7 := e6.gr ((Gr.refl e6.sub).tmp (o := .lst [.str "down", .str "up"]) hl)
        have hl7 : (upd H6 l (.lst [.str "down", .str "up"])) l = some (.lst [.str "down", .str "up"]) := upd_same
        have hD7 : (upd H6 l (.lst [.str "down", .str "up"])) D4 = some (.lst acc) := by rw [upd_ne (ne_of_none hD6 hl)]; exact hD6
        generalize upd H6 l (.lst [.str "down", .str "up"]) = H7 at e7 hl7 hD7 ⊢
        refine ⟨_, rfl, _, rfl, q3, _, rfl, e7.sub _ _ hq3, rfl, flat_ints _, .inr ⟨_, rfl, ?_⟩⟩
        rw [inV_ints]
        have eway : atI [V.str "down", .str "up"] (if st.dl.contains kk = true then 1 else 0) = some (.str (wayS (!st.dl.contains kk))) := by
          cases st.dl.contains kk <;> rfl
        refine ⟨l, _, _, _, rfl, rfl, hl7, eway, by show 2 ≤ sizeLine; decide, fun z hz => ?_⟩
        have e8 := e7.gr ((Gr.refl e7.sub).fr (o := .tup [.int kk, .str (wayS (!st.dl.contains kk))]) hz)
        have gzn : Gi z = none := e7.sub.free hz
        have dz : Dq (upd Gi z (.tup [.int kk, .str (wayS (!st.dl.contains kk))])) (.ref z) (stpD (kk, !st.dl.contains kk)) := newT gzn (.two (.int _) (.str _))
        have nDz : D4 ≠ z := ne_of_none hD7 hz
        have hD8 : (upd H7 z (.tup [.int kk, .str (wayS (!st.dl.contains kk))])) D4 = some (.lst acc) := by rw [upd_ne nDz]; exact hD7
        have gD8 : (upd Gi z (.tup [.int kk, .str (wayS (!st.dl.contains kk))])) D4 = none := by rw [upd_ne nDz]; exact gD
        have hq8 := same_upd (o := .tup [.int kk, .str (wayS (!st.dl.contains kk))]) gzn _ _ hq3
        have hacc8 := hacc.of (same_upd (o := .tup [.int kk, .str (wayS (!st.dl.contains kk))]) gzn)
        generalize upd Gi z (.tup [.int kk, .str (wayS (!st.dl.contains kk))]) = G8 at e8 dz gD8 hq8 hacc8
        generalize upd H7 z (.tup [.int kk, .str (wayS (!st.dl.contains kk))]) = H8 at e8 hD8 ⊢
        refine ⟨D4, acc, .ref z, rfl, rfl, hD8, small1000 (by omega), ?_⟩
        have e9 : Dr a G H G8 (upd H8 D4 (.lst (acc ++ [.ref z]))) qq := e8.setD hD4H gD8 nDa
        have hD9 : (upd H8 D4 (.lst (acc ++ [.ref z]))) D4 = some (.lst (acc ++ [.ref z])) := upd_same
        generalize upd H8 D4 (.lst (acc ++ [.ref z])) = H9 at e9 hD9 ⊢
        -- down = [..] + [key] * int(..)
        refine ⟨_, rfl, q3, rfl, ⟨_, sqL (e9.sub _ _ hq8)⟩, fun D5 hD5 => ?_⟩
        refine lcD (G := G8) (G1 := G8) (fun j => (st.dl[j]?).bind fun x => if (!decide (x = kk)) = true then some (.int x) else none) (walkL (K := K) (a := q3) (xs := st.dl.map V.int)) (by rw [List.length_map]; omega) (Gr.refl e9.sub) (fun Gj Hj gj => gj.sub _ _ (gj.ext _ _ hq8)) hD5 (fun j x Gj Hj H' Ok No hj gj yy ok no => ?_) fun G10 H10 g10 g10' dq => ?_
        · obtain ⟨rfl, hy2⟩ := yy
          rw [List.getElem?_map] at hy2
          cases ex : st.dl[j]? with
          | none => rw [ex] at hy2; cases hy2
          | some xv =>
            rw [ex] at hy2
            obtain rfl := (Option.some.inj hy2).symm
            have efull : ((st.dl[j]?).bind fun x => if (!decide (x = kk)) = true then some (PyData.int x) else none) = if (!decide (xv = kk)) = true then some (.int xv) else none := by rw [ex]; rfl
            have edec : decide (V.int xv = V.int kk) = decide (xv = kk) := decide_eq_decide.mpr ⟨V.int.inj, congrArg V.int⟩
            refine ⟨rfl, _, rfl, _, rfl, rfl, _, rfl, ?_⟩
            rw [edec]
            refine iteB (fun h2 => ⟨_, rfl, ok _ Gj _ _ (Gr.refl gj.sub) (.int _) ?_⟩) fun h2 => no Gj _ (Gr.refl gj.sub) ?_
            · show ((st.dl[j]?).bind _) = _
              rw [efull, if_pos h2]
            · show ((st.dl[j]?).bind _) = _
              rw [efull, h2]
              rfl
        · have em : made (fun j => (st.dl[j]?).bind fun x => if (!decide (x = kk)) = true then some (PyData.int x) else none) (st.dl.map V.int).length = (st.dl.filter (· ≠ kk)).map PyData.int := by
            rw [List.length_map, made_get]
            have := fm_if (fun x : Int => !decide (x = kk)) PyData.int st.dl
            rw [this]
            congr 1
            exact List.filter_congr fun x _ => by simp
          rw [em] at dq
          obtain ⟨D5', rs, e10, hD5s, trs⟩ := dq.lstE
          cases e10
          obtain rfl := dp_intsE trs
          have f10 := e9.gr g10
          have hD10 := g10.keep _ _ hD9
          have gD10 := g10.out hD9 gD8
          refine ⟨_, rfl, by show 1 ≤ sizeLine; decide, fun z2 hz2 => ?_⟩
          have f11 := f10.gr ((Gr.refl g10.sub).tmp (o := .lst [.int kk]) hz2)
          have hz11 : (upd H10 z2 (.lst [.int kk])) z2 = some (.lst [.int kk]) := upd_same
          have hD11 : (upd H10 z2 (.lst [.int kk])) D4 = some (.lst (acc ++ [.ref z])) := by rw [upd_ne (ne_of_none hD10 hz2)]; exact hD10
          generalize upd H10 z2 (.lst [.int kk]) = H11 at f11 hz11 hD11 ⊢
          have hq11 := f11.sub _ _ (g10.ext _ _ hq8)
          refine ⟨_, rfl, _, rfl, q3, _, rfl, hq11, rfl, flat_ints _, .inr ⟨_, rfl, ?_⟩⟩
          rw [inV_ints]
          have erep : ∀ b : Bool, (List.replicate (if b = true then 1 else 0 : Int).toNat [V.int kk]).flatten = ((if b = true then [kk] else []) : List Int).map V.int := by
            intro b
            cases b <;> rfl
          refine ⟨z2, _, _, rfl, rfl, hz11, by split <;> decide, by split <;> decide, small (by split <;> simp), fun z3 hz3 => ?_⟩
          rw [erep]
          have f12 := f11.gr ((Gr.refl f11.sub).tmp (o := .lst (((if (!st.dl.contains kk) = true then [kk] else []) : List Int).map V.int)) hz3)
          have hz12 : (upd H11 z3 (.lst (((if (!st.dl.contains kk) = true then [kk] else []) : List Int).map V.int))) z3 = some (.lst (((if (!st.dl.contains kk) = true then [kk] else []) : List Int).map V.int)) := upd_same
          have hD12 : (upd H11 z3 (.lst (((if (!st.dl.contains kk) = true then [kk] else []) : List Int).map V.int))) D4 = some (.lst (acc ++ [.ref z])) := by rw [upd_ne (ne_of_none hD11 hz3)]; exact hD11
          generalize upd H11 z3 (.lst (((if (!st.dl.contains kk) = true then [kk] else []) : List Int).map V.int)) = H12 at f12 hz12 hD12 ⊢
          have hD512 := f12.sub _ _ hD5s
          have hfl2 := List.length_filter_le (fun x => decide (x ≠ kk)) st.dl
          refine ⟨D5, z3, _, _, rfl, rfl, hD512, hz12, small (by
            rw [List.length_map, List.length_map]
            have : (if (!st.dl.contains kk) = true then [kk] else [] : List Int).length ≤ 1 := by split <;> simp
            omega), fun z4 hz4 => ?_⟩
          have f13 := f12.gr ((Gr.refl f12.sub).fr (o := .lst ((st.dl.filter (· ≠ kk)).map V.int ++ ((if (!st.dl.contains kk) = true then [kk] else []) : List Int).map V.int)) hz4)
          have gz4 : G10 z4 = none := f12.sub.free hz4
          refine ⟨some y, some (.int kk), v7, upd G10 z4 (.lst ((st.dl.filter (· ≠ kk)).map V.int ++ ((if (!st.dl.contains kk) = true then [kk] else []) : List Int).map V.int)), z4, acc ++ [.ref z], rfl, ?_, ?_, ?_, ?_, ?_⟩
          · rw [hnx]
            exact f13
          · rw [hnx, upd_same]
            show some (HO.lst _) = some (HO.lst ((st.dl.filter (· ≠ kk) ++ (if st.dl.contains kk then [] else [kk])).map V.int))
            rw [List.map_append]
            cases st.dl.contains kk <;> rfl
          · rw [upd_ne (ne_of_none hD12 hz4)]
            exact hD12
          · rw [upd_ne (ne_of_none hD12 hz4)]
            exact gD10
          · rw [hnx]
            show DqAll _ _ ((st.fs ++ [(kk, !st.dl.contains kk)]).map stpD)
            rw [List.map_append]
            exact (dq_snoc hacc8 dz).of (g10.ext.trans (same_upd gz4))
    · obtain ⟨v5, v6, v7, Gi, q3, acc, rfl, d, hq3, hD, gD, hacc⟩ := h
      refine ⟨_, rfl, k _ (upd Gi D4 (.lst acc)) _ ⟨GrP.freeze d.g hD4H hD, d.ha, by rw [upd_ne nDa.symm]; exact d.ga⟩ (ls upd_same (hacc.of (same_upd gD)))⟩
end
end HT8
end partW25
section partW26
set_option Elab.async false
set_option linter.all false
set_option maxRecDepth 100000
namespace HT8
open PySem PySem.Spec PyProof.Rows L2 HT5 HT6 HT7
open PySem.W (alike alikeAll dataLt dataLe AllAlike)
/-- what the arrivals must keep -/
structure Sound (L : Lay) (R : List Ev) (half : List Int) : Prop where
  zero : ∃ a ∈ mArrivals L R half, a.least = 0 ∧ a.outs = mFlat L R
  pos : ∀ a ∈ mArrivals L R half, 0 ≤ a.least
  dly : ∀ a ∈ mArrivals L R half, 0 < a.least → ∃ d ∈ a.delays, a.least ≤ d
  near : ∀ a ∈ mArrivals L R half, a.outs ≠ mFlat L R → (∃ m ∈ nearL R half, m < a.least) ∨ (∃ m ∈ mMargins L R, m < a.least)
  n0 : ∀ m ∈ nearL R half, 0 ≤ m
  m0 : ∀ m ∈ mMargins L R, 0 ≤ m
  zz : ∀ a ∈ mArrivals L R half, a.outs ≠ mFlat L R ++ [(some (true, ("zz" : PySem.Str)) : Out)]
  cnt : (mArrivals L R half).length ≤ 62
structure LateRes (L : Lay) (R : List Ev) (half : List Int) (l : Int) (rs : List (List Out)) : Prop where
  nd : rs.Nodup
  ord : InOrd rs
  len : rs.length < 64
  mem : ∀ o, o ∈ rs ↔ ∃ a ∈ mArrivals L R half, a.least ≤ l ∧ a.outs = o
structure SafeRes (L : Lay) (R : List Ev) (half : List Int) (most s : Int) : Prop where
  at_ : s = most ∨ ∃ a ∈ mArrivals L R half, a.outs ≠ mFlat L R ∧ s = a.least - 1
  le : s ≤ most
  all : ∀ a ∈ mArrivals L R half, a.outs ≠ mFlat L R → s ≤ a.least - 1
section
variable {L : Lay} {R : List Ev} {half : List Int} {l l' most most' x y : Int} {rs rs' : List (List Out)}
theorem Sound.pos1 (g : Sound L R half) {a : Arr} (ha : a ∈ mArrivals L R half) (h : a.outs ≠ mFlat L R) : 1 ≤ a.least := by
  rcases g.near a ha h with ⟨m, hm, hlt⟩ | ⟨m, hm, hlt⟩
  · have := g.n0 m hm; omega
  · have := g.m0 m hm; omega
theorem LateRes.own (r : LateRes L R half l rs) (g : Sound L R half) (h : 0 ≤ l) : mFlat L R ∈ rs := by
  obtain ⟨a, ha, h0, ho⟩ := g.zero
  exact (r.mem _).mpr ⟨a, ha, by omega, ho⟩
theorem LateRes.only (r : LateRes L R half l rs) (g : Sound L R half) (h : 0 ≤ l) (ho : ∀ a ∈ mArrivals L R half, a.outs ≠ mFlat L R → l < a.least) : rs = [mFlat L R] := by
  have hm := r.own g h
  have hall : ∀ o ∈ rs, o = mFlat L R := fun o hmo => by
    obtain ⟨a, ha, hl, e⟩ := (r.mem o).mp hmo
    by_cases q : a.outs = mFlat L R
    · rw [← e]; exact q
    · have := ho a ha q; omega
  have hnd := r.nd
  match rs, hm, hall, hnd with
  | [o], _, hall, _ => rw [hall o (by simp)]
  | o :: o' :: r', _, hall, hnd =>
    exfalso
    have h1 := hall o (by simp)
    have h2 := hall o' (by simp)
    have := (List.nodup_cons.mp hnd).1
    rw [h1, h2] at this
    exact this (by simp)
theorem SafeRes.nn (s : SafeRes L R half most x) (g : Sound L R half) (h : 0 ≤ most) : 0 ≤ x := by
  rcases s.at_ with e | ⟨a, ha, hne, e⟩
  · omega
  · have := g.pos1 ha hne; omega
theorem LateRes.mono (r : LateRes L R half l rs) (r' : LateRes L R half l' rs') (h : l ≤ l') : ∀ o ∈ rs, o ∈ rs' := fun o hmo => by
  obtain ⟨a, ha, hl, e⟩ := (r.mem o).mp hmo
  exact (r'.mem o).mpr ⟨a, ha, by omega, e⟩
theorem two_len' {a b : List Out} (ha : a ∈ rs) (hb : b ∈ rs) (h : a ≠ b) : 2 ≤ rs.length := by
  match rs, ha, hb with
  | [o], ha, hb =>
    exact absurd ((List.mem_singleton.mp ha).trans (List.mem_singleton.mp hb).symm) h
  | o :: o' :: r, _, _ => simp
theorem SafeRes.next (s : SafeRes L R half most x) (h : x < most) : ∃ a ∈ mArrivals L R half, a.outs ≠ mFlat L R ∧ a.least = x + 1 := by
  rcases s.at_ with e | ⟨a, ha, hne, e⟩
  · omega
  · exact ⟨a, ha, hne, by omega⟩
theorem SafeRes.eq (s : SafeRes L R half most x) (s' : SafeRes L R half most' y) (h1 : x ≤ most') (h2 : most' ≤ most) : y = x := by
  have a1 := s'.le
  have a2 := s.le
  have h3 : y ≤ x := by
    rcases s.at_ with e | ⟨a, ha, hne, e⟩
    · omega
    · have := s'.all a ha hne; omega
  have h4 : x ≤ y := by
    rcases s'.at_ with e | ⟨a, ha, hne, e⟩
    · omega
    · have := s.all a ha hne; omega
  omega
theorem delays_some {o : List Out} (h : ∃ a ∈ mArrivals L R half, a.least ≤ l ∧ a.outs = o) : ∃ a ∈ mArrivals L R half, a.least ≤ l ∧ a.outs = o ∧ mDelays L R half l o = some a.delays := by
  unfold mDelays
  obtain ⟨a, ha, hl, ho⟩ := h
  have hm : a ∈ (mArrivals L R half).filter fun a => decide (a.least ≤ l) && decide (a.outs = o) := List.mem_filter.mpr ⟨ha, by simp [hl, ho]⟩
  cases e : (mArrivals L R half).filter fun a => decide (a.least ≤ l) && decide (a.outs = o) with
  | nil => rw [e] at hm; cases hm
  | cons b r =>
    have hb : b ∈ (mArrivals L R half).filter fun a => decide (a.least ≤ l) && decide (a.outs = o) := by rw [e]; simp
    obtain ⟨h1, h2⟩ := List.mem_filter.mp hb
    simp only [Bool.and_eq_true, decide_eq_true_eq] at h2
    exact ⟨b, h1, h2.1, h2.2, rfl⟩
theorem delays_none {o : List Out} (h : ∀ a ∈ mArrivals L R half, a.outs ≠ o) : mDelays L R half l o = none := by
  unfold mDelays
  have : ((mArrivals L R half).filter fun a => decide (a.least ≤ l) && decide (a.outs = o)) = [] := by
    rw [List.filter_eq_nil_iff]
    intro a ha
    simp [h a ha]
  rw [this]
  rfl
end
theorem _root_.HT7.ArgsOk.of {G H : Hp} {v u x : V} {L : Lay} {R : List Ev} {half : List Int} {l l' : Int} (a : ArgsOk G v u x L R half l) (s : Same G H) (h0 : 0 ≤ l') (h9 : l' ≤ 1000000000) : ArgsOk H v u x L R half l' :=
  ⟨a.dv.of s, a.hL, a.du.of s, a.hR, a.R8, a.dx.of s, a.hh, a.hl, h0, h9⟩
/-- a list of results in the heap -/
def dRs (rs : List (List Out)) : PyData := .list (rs.map outsD)
theorem fine_rs {rs : List (List Out)} (h : ∀ o ∈ rs, ∀ q ∈ o, Fine 1 (outD q)) : Fine 3 (dRs rs) := by
  intro x hx
  obtain ⟨o, ho, rfl⟩ := List.mem_map.mp hx
  exact fine_outs (h o ho)
theorem dRs_inj {a b : List (List Out)} : dRs a = dRs b ↔ a = b := by
  constructor
  · intro h
    exact (List.map_inj_right fun _ _ e => outsD_inj.mp e).mp (PyData.list.inj h)
  · intro h; rw [h]
theorem sorted_same {bs : List (V × PyData)} {rs : List (List Out)} (e : bs.map (·.2) = rs.map outsD) (h : InOrd rs) : bs.mergeSort (dataLe false fun b : V × PyData => b.2) = bs := by
  refine List.mergeSort_of_pairwise ?_
  have h2 : (rs.map outsD).Pairwise fun a b => dataLt b a = false := List.pairwise_map.mpr h
  rw [← e] at h2
  refine (List.pairwise_map.mp h2).imp fun {p q} hpq => ?_
  show (!dataLt q.2 p.2) = true
  rw [hpq]
  rfl
theorem zip_dq {H : Hp} : ∀ {vs : List V} {ds : List PyData}, DqAll H vs ds → ∃ bs : List (V × PyData), bs.map (·.1) = vs ∧ bs.map (·.2) = ds ∧ ∀ b ∈ bs, Dq H b.1 b.2
  | _, _, .nil => ⟨[], rfl, rfl, fun _ h => by cases h⟩
  | _, _, .cons (v := v) (d := d) h t => by
    obtain ⟨bs, e1, e2, e3⟩ := zip_dq t
    refine ⟨(v, d) :: bs, by rw [List.map_cons, e1], by rw [List.map_cons, e2], fun b hb => ?_⟩
    rcases List.mem_cons.mp hb with z | z
    · rw [z]; exact h
    · exact e3 b z
theorem outs_depth {o : List Out} : (outsD o).depth ≤ 2 := by
  have h1 : ∀ q : Out, (outD q).depth ≤ 1 := by
    intro q
    cases q with
    | none => simp [outD, PyData.depth, PyData.depthAll]
    | some q => obtain ⟨p, c⟩ := q; simp [outD, PyData.depth, PyData.depthAll]
  have h2 : ∀ l : List Out, PyData.depthAll (l.map outD) ≤ 1 := by
    intro l
    induction l with
    | nil => simp [PyData.depthAll]
    | cons q r ih =>
      simp only [List.map_cons, PyData.depthAll]
      exact Nat.max_le.mpr ⟨h1 q, ih⟩
  have := h2 o
  unfold outsD
  simp only [PyData.depth]
  omega
def sp_law_right : Sp := fun vs H Q _ => ∃ (z v u x : V) (L : Lay) (R : List Ev) (half : List Int) (far : Int), vs = [z, v, u, x, .int far] ∧ ArgsOk H v u x L R half far ∧ Sound L R half ∧ ∀ H', Same H H' → Q (.bl true) H'
end HT8
end partW26
section partW27
set_option Elab.async false
set_option linter.all false
set_option maxRecDepth 100000
namespace HT8
open PySem PySem.Spec PyProof.Rows L2 HT5 HT6 HT7
open PySem.W (alike alikeAll dataLt dataLe AllAlike)
section
variable {P : Program} {w : World} {K : PySem.W.Frag} {mg : Str → Option Value} {base : Heap}
/-- the least of a list, if any -/
def MinO (l : List Int) : Option Int → Prop
  | none => l = []
  | some m => m ∈ l ∧ ∀ y ∈ l, m ≤ y
def optV : Option Int → V
  | none => .non
  | some i => .int i
theorem flat_len {L : Lay} {R : List Ev} (h : R.length ≤ 400) : (mFlat L R).length ≤ 400 := by
  have : ∀ (r : List Ev) (n : Nat) (st : Pl), (stepsGo L R n st r).length = r.length := by
    intro r
    induction r with
    | nil => intro n st; rfl
    | cons e r ih => intro n st; show (_ :: stepsGo L R (n + 1) _ r).length = _; simp [ih]
  unfold mFlat
  refine Nat.le_trans (List.length_filter_le _ _) ?_
  unfold mPlayed mSteps
  rw [List.length_map, this]
  exact h
theorem far_of {H : Hp} {v u : V} {R : List Ev} {half : List Int} {Q : VK} (h1 : Dq H v (recD R)) (h2 : Dq H u (intsD half)) (h3 : R.length ≤ 8) (h : ∀ H' no, Same H H' → MinO (nearL R half) no → Q (optV no) H') : sp_law_far [v, u] H Q C8.E0 :=
  ⟨v, u, R, half, rfl, h1, h2, h3, fun H' s => ⟨fun e => h H' none s e, fun m hm hle => h H' (some m) s ⟨hm, hle⟩⟩⟩
theorem slack_of {H : Hp} {v u : V} {L : Lay} {R : List Ev} {Q : VK} (h1 : Dq H v (layD L)) (hL : LayOk L) (h2 : Dq H u (recD R)) (h3 : RecOk (mWide L) R) (h : ∀ H' no, Same H H' → MinO (mMargins L R) no → Q (optV no) H') : sp_slack [v, u] H Q C8.E0 :=
  ⟨H, v, u, L, R, rfl, Same.refl H, h1, hL, h2, h3, fun H' s => ⟨fun e => h H' none s e, fun m hm hle => h H' (some m) s ⟨hm, hle⟩⟩⟩
theorem fine_zz1 : Fine 1 (outD (some (true, PySem.Str.ofString "zz"))) := by
  intro y hy
  have e : y = .str "press" ∨ y = .str "zz" := by simpa [outD] using hy
  rcases e with rfl | rfl
  · show PyData.strOk _ = true
    decide +kernel
  · show PyData.strOk _ = true
    decide +kernel
theorem cutV_mem {xs : List V} {lo hi : Option Int} {y : V} (h : y ∈ cutV xs lo hi) : y ∈ xs := by
  unfold cutV at h
  exact List.mem_of_mem_drop (List.mem_of_mem_take h)
abbrev s_law_right : Stmt := top 68
abbrev N_law_right : List PySem.Str := ["_law_pool_here", "_law_layout_here", "_law_record", "_law_half", "_law_far_here", "_law_own", "_law_rows", "_law_one", "_law_two", "_law_safe", "_law_told", "_law_moved", "_law_other", "_law_near", "_law_margin", "_law_least"]
abbrev P_law_right : List PySem.Str := ["_law_pool_here", "_law_layout_here", "_law_record", "_law_half", "_law_far_here"]
theorem sc_law_right : FnScope N_law_right P_law_right (defScope s_law_right) := ⟨rfl, rfl, rfl, by decide +kernel, rfl, by decide +kernel, by decide +kernel⟩
set_option maxHeartbeats 2000000 in
theorem ok_law_right {f : Addr} {fd : FuncData} (F : Fun K "_law_right" "_law_right" s_law_right f fd) (B : Bt mg) (c_flat : C8.Cal P w K mg base 8 "flat" sp_flat []) (c_late_results : C8.Cal P w K mg base 11 "late_results" sp_late_results []) (c_delays_for : C8.Cal P w K mg base 11 "delays_for" sp_delays_for []) (c_safe_late : C8.Cal P w K mg base 11 "safe_late" sp_safe_late []) (c__law_far : C8.Cal P w K mg base 1 "_law_far" sp_law_far []) (c_slack : C8.Cal P w K mg base 7 "slack" sp_slack []) : FnOk P w K mg base CX0 12 f fd P_law_right sp_law_right := by
  refine F.ok sc_law_right (fun vs H Q E h => ?_) (fun cdv A outer s H vs Q E hr h => ?_)
  · obtain ⟨z, v, u, x, L, R, half, far, rfl, _⟩ := h
    rfl
  · obtain ⟨zp, v, u, x, L, R, half, far, rfl, ar, gd, k⟩ := h
    have nd := sc_law_right.nd
    have hu64 := hr.units
    have hu65 := hu65_of hr
    have f0 := ar.l0
    have f9 := ar.l9
    -- what the functions give from any later heap
    have late : ∀ (Hc : Hp) (l : Int), Same H Hc → 0 ≤ l → l ≤ far → ∀ (Q' : VK), (∀ y H' rs, Same Hc H' → Dq H' y (dRs rs) → LateRes L R half l rs → Q' y H') → sp_late_results [v, u, x, .int l] Hc Q' C8.E0 := fun Hc l sc h0 hl Q' kq =>
      ⟨Hc, v, u, x, L, R, half, l, rfl, Same.refl Hc, ar.of sc h0 (by omega), gd.cnt, fun y G' H' rs g dy n1 n2 n3 n4 => kq y H' rs g.keep (dy.of g.sub) ⟨n1, n2, n3, n4⟩⟩
    have safeC : ∀ (Hc : Hp) (l : Int), Same H Hc → 0 ≤ l → l ≤ far → ∀ (Q' : VK), (∀ H' s, Same Hc H' → SafeRes L R half l s → Q' (.int s) H') → sp_safe_late [v, u, x, .int l] Hc Q' C8.E0 := fun Hc l sc h0 hl Q' kq =>
      ⟨Hc, v, u, x, L, R, half, l, rfl, Same.refl Hc, ar.of sc h0 (by omega), fun H' s sh h1 h2 h3 => kq H' s sh ⟨h1, h2, h3⟩⟩
    have foA : ∀ a ∈ mArrivals L R half, ∀ q ∈ a.outs, Fine 1 (outD q) := fun a ha q hq => fineOut (arr_out ar.hL ar.hR.keys ha q hq)
    have fow : ∀ q ∈ mFlat L R, Fine 1 (outD q) := by
      obtain ⟨a, ha, _, e⟩ := gd.zero
      rw [← e]
      exact foA a ha
    have forr : ∀ {l : Int} {rs : List (List Out)}, LateRes L R half l rs → ∀ o ∈ rs, ∀ q ∈ o, Fine 1 (outD q) := fun r o ho q hq => by
      obtain ⟨a, ha, _, e⟩ := (r.mem o).mp ho
      rw [← e] at hq
      exact foA a ha q hq
    have delC : ∀ (Hc : Hp) (l : Int) (zv : V) (o : List Out), Same H Hc → 0 ≤ l → l ≤ far → Dq Hc zv (outsD o) → (∀ q ∈ o, Fine 1 (outD q)) → ∀ (Q' : VK), (∀ y H', Same Hc H' → Dq H' y (optInts (mDelays L R half l o)) → Q' y H') → sp_delays_for [v, u, x, .int l, zv] Hc Q' C8.E0 := fun Hc l zv o sc h0 hl dz fz Q' kq =>
      ⟨Hc, v, u, x, zv, L, R, half, l, o, rfl, Same.refl Hc, ar.of sc h0 (by omega), dz, fz, fun y G' H' g dy => kq y H' g.keep (dy.of g.sub)⟩
    refine ⟨_, (pss_cons (ps_asg (pe_tup (pa_cons (C8.pe_c c_flat hr (by decide) rfl (pa_cons (pv 1) (pa_cons (pv 2) pa_nil))) (pa_cons (pe_lc (own := [("_law_one", 7)]) rfl nd (pi_list (pe_lst (pa_cons pe_int (pa_cons (pe_op op_fdivW (pv 4) pe_int) (pa_cons (pv 4) pa_nil))))) (blkOk_by (own := [("_law_one", 7)]) (N := N_law_right) (sc := defScope s_law_right) (by decide +kernel)) (fun _ _ _ _ _ => (pg_name (i := 7) nd rfl (Or.inl rfl))) (fun _ _ _ _ _ => pts_nil) (fun _ _ _ _ _ => (C8.pe_c c_late_results hr (by decide) rfl (pa_cons (pv 1) (pa_cons (pv 2) (pa_cons (pv 3) (pa_cons (pv 7) pa_nil))))))) pa_nil))) (pg_tupq (n := 2) rfl (pgs_cons (pg_name (i := 5) nd rfl (Or.inl rfl)) (pgs_cons (pg_name (i := 6) nd rfl (Or.inr rfl)) pgs_nil))))
    (pss_cons (ps_if (PW.pt (pw_or (pt_cmpR (op_neQ hr.units) (pe_ix ixlq (pv 6) pe_int (fun _ _ => rfl)) (pe_lst (pa_cons (pv 5) pa_nil)) (by first | exact nomark _ | rfl)) (pw_or (pt_cmpR (op_neQ hr.units) (pe_lc (own := [("_law_one", 7)]) rfl nd (pi_list (pe_ix ixlq (pv 6) pe_int (fun _ _ => rfl))) (blkOk_by (own := [("_law_one", 7)]) (N := N_law_right) (sc := defScope s_law_right) (by decide +kernel)) (fun _ _ _ _ _ => (pg_name (i := 7) nd rfl (Or.inl rfl))) (fun _ _ _ _ _ => (pts_one (pt_cmpR (ninQ hu65) (pv 7) (pe_ix ixlq (pv 6) pe_int (fun _ _ => rfl)) (by first | exact nomark _ | rfl)))) (fun _ _ _ _ _ => (pv 7))) (pe_lst pa_nil) (by first | exact nomark _ | rfl)) (pw_or1 (pt_cmpR (ninQ hu65) (pv 5) (pe_ix ixlq (pv 6) pe_int (fun _ _ => rfl)) (by first | exact nomark _ | rfl)))))) (pss_one (ps_ret pe_bl)) pss_nil)
    (pss_cons (ps_if (PW.pt (pw_or (pt_cmpR (op_neQ hr.units) (pe_ix ixlq (pv 6) pe_int (fun _ _ => rfl)) (pe_callB (HT4.cr_sortD hu64) (by rfl) B.sorted (by decide +kernel) (pa_cons (pe_ix ixlq (pv 6) pe_int (fun _ _ => rfl)) pa_nil)) (by first | exact nomark _ | rfl)) (pw_or1 (pt_cmpR (op_neQ hr.units) (pe_lc (own := [("_law_one", 7), ("_law_two", 8)]) rfl nd (pi_zip (by rfl) B.zip (pa_cons (pe_ix ixlq (pv 6) pe_int (fun _ _ => rfl)) (pa_cons (pe_slice slLq (pe_ix ixlq (pv 6) pe_int (fun _ _ => rfl)) (po_some pe_int) po_none) pa_nil))) (blkOk_by (own := [("_law_one", 7), ("_law_two", 8)]) (N := N_law_right) (sc := defScope s_law_right) (by decide +kernel)) (fun _ _ _ _ _ => (pg_tupq (n := 2) rfl (pgs_cons (pg_name (i := 7) nd rfl (Or.inl rfl)) (pgs_cons (pg_name (i := 8) nd rfl (Or.inl rfl)) pgs_nil)))) (fun _ _ _ _ _ => (pts_one (pt_cmpR (op_eqQ hr.units) (pv 7) (pv 8) (by first | exact nomark _ | rfl)))) (fun _ _ _ _ _ => pe_int)) (pe_lst pa_nil) (by first | exact nomark _ | rfl))))) (pss_one (ps_ret pe_bl)) pss_nil)
    (pss_cons (ps_set (i := 9) nd rfl (Or.inl rfl) (C8.pe_c c_safe_late hr (by decide) rfl (pa_cons (pv 1) (pa_cons (pv 2) (pa_cons (pv 3) (pa_cons (pv 4) pa_nil))))))
    (pss_cons (ps_if (PW.pt (pw_or (pt_not (pt_chain op_le op_le pe_int (pv 9) (pv 4))) (pw_or1 (pt_cmpR (op_neQ hr.units) (C8.pe_c c_late_results hr (by decide) rfl (pa_cons (pv 1) (pa_cons (pv 2) (pa_cons (pv 3) (pa_cons (pv 9) pa_nil))))) (pe_lst (pa_cons (pv 5) pa_nil)) (by first | exact nomark _ | rfl))))) (pss_one (ps_ret pe_bl)) pss_nil)
    (C8.pss_cut (ps_if (PW.pt (pw_or (pt_cmpR op_ne (pe_cmpR op_eq (pv 9) (pv 4) (by first | exact nomark _ | rfl)) (pe_cmpR op_eq (pe_callB lenLq (by rfl) B.len (by decide +kernel) (pa_cons (pe_ix ixlq (pv 6) pe_int (fun _ _ => rfl)) pa_nil)) pe_int (by first | exact nomark _ | rfl)) (by first | exact nomark _ | rfl)) (pw_or1 (PW.pt (pw_and (pt_cmpR op_lt (pv 9) (pv 4) (by first | exact nomark _ | rfl)) (pw_and1 (pt_cmpR op_lt (pe_callB lenLq (by rfl) B.len (by decide +kernel) (pa_cons (C8.pe_c c_late_results hr (by decide) rfl (pa_cons (pv 1) (pa_cons (pv 2) (pa_cons (pv 3) (pa_cons (pe_op op_add (pv 9) pe_int) pa_nil))))) pa_nil)) pe_int (by first | exact nomark _ | rfl)))))))) (pss_one (ps_ret pe_bl)) pss_nil)
    (pss_cons (ps_if (PW.pt (pw_or (pt_cmpR op_ne (C8.pe_c c_safe_late hr (by decide) rfl (pa_cons (pv 1) (pa_cons (pv 2) (pa_cons (pv 3) (pa_cons (pe_callB (call_min2 rfl) (by rfl) B.min (by decide +kernel) (pa_cons (pv 4) (pa_cons (pe_op op_add (pv 9) pe_int) pa_nil))) pa_nil))))) (pv 9) (by first | exact nomark _ | rfl)) (pw_or1 (pt_cmpR op_ne (C8.pe_c c_safe_late hr (by decide) rfl (pa_cons (pv 1) (pa_cons (pv 2) (pa_cons (pv 3) (pa_cons (pv 9) pa_nil))))) (pv 9) (by first | exact nomark _ | rfl))))) (pss_one (ps_ret pe_bl)) pss_nil)
    (pss_cons (ps_for PassesOwn.never rfl (pi_list (pe_op op_cat (pe_slice slLq (pe_ix ixlq (pv 6) pe_int (fun _ _ => rfl)) po_none (po_some pe_int)) (pe_slice slLq (pe_ix ixlq (pv 6) pe_int (fun _ _ => rfl)) (po_some (pe_un un_neg pe_int)) po_none))) (pg_name (i := 10) nd rfl (Or.inl rfl)) (pss_cons (ps_set (i := 11) nd rfl (Or.inl rfl) (C8.pe_c c_delays_for hr (by decide) rfl (pa_cons (pv 1) (pa_cons (pv 2) (pa_cons (pv 3) (pa_cons (pv 4) (pa_cons (pv 10) pa_nil)))))))
    (pss_cons (ps_if (PW.pt (pw_or (pt_cmpR op_isN (pv 11) pe_non (by first | exact nomark _ | rfl)) (pw_or1 (PW.pt (pw_and (pt_cmpR (op_neQ hr.units) (pv 10) (pv 5) (by first | exact nomark _ | rfl)) (pw_and1 (pt_cmpR op_le (pe_callB (maxq rfl) (by rfl) B.max (by decide +kernel) (pa_cons (pv 11) pa_nil)) (pv 9) (by first | exact nomark _ | rfl)))))))) (pss_one (ps_ret pe_bl)) pss_nil)
    (pss_one (ps_if (PW.pt (pw_and (pt_cmpR op_isN (C8.pe_c c_delays_for hr (by decide) rfl (pa_cons (pv 1) (pa_cons (pv 2) (pa_cons (pv 3) (pa_cons (pv 9) (pa_cons (pv 10) pa_nil)))))) pe_non (by first | exact nomark _ | rfl)) (pw_and1 (pt_cmpR (op_eqQ hr.units) (pv 10) (pv 5) (by first | exact nomark _ | rfl))))) (pss_one (ps_ret pe_bl)) pss_nil)))))
    (pss_cons (ps_set (i := 12) nd rfl (Or.inl rfl) (pe_op op_cat (pv 5) (pe_lst (pa_cons (pe_tup (pa_cons pe_str (pa_cons pe_str pa_nil))) pa_nil))))
    (pss_cons (ps_par (i := 13) (j := 14) (by rfl) nd rfl rfl (by decide) rfl rfl (pa_cons (C8.pe_c c__law_far hr (by decide) rfl (pa_cons (pv 2) (pa_cons (pv 3) pa_nil))) (pa_cons (C8.pe_c c_slack hr (by decide) rfl (pa_cons (pv 1) (pa_cons (pv 2) pa_nil))) pa_nil)) (by rfl))
    (pss_cons (ps_set (i := 15) nd rfl (Or.inl rfl) (pe_callB (minq rfl) (by rfl) B.min (by decide +kernel) (pa_cons (pe_lc (own := [("_law_one", 7)]) rfl nd (pi_list (pe_lst (pa_cons (pv 13) (pa_cons (pv 14) (pa_cons (pv 4) pa_nil))))) (blkOk_by (own := [("_law_one", 7)]) (N := N_law_right) (sc := defScope s_law_right) (by decide +kernel)) (fun _ _ _ _ _ => (pg_name (i := 7) nd rfl (Or.inl rfl))) (fun _ _ _ _ _ => (pts_one (pt_cmpR op_notN (pv 7) pe_non (by first | exact nomark _ | rfl)))) (fun _ _ _ _ _ => (pv 7))) pa_nil)))
    (pss_one (ps_ret (pe_and (pe_cmpR op_ge (pv 9) (pv 15) (by first | exact nomark _ | rfl)) (pe_one (pe_cmpR op_isN (C8.pe_c c_delays_for hr (by decide) rfl (pa_cons (pv 1) (pa_cons (pv 2) (pa_cons (pv 3) (pa_cons (pv 4) (pa_cons (pv 12) pa_nil)))))) pe_non (by first | exact nomark _ | rfl))))))))))))))))), ?_⟩
    -- own, rows
    refine ⟨_, rfl, _, rfl, H, v, u, L, R, rfl, Same.refl H, ar.dv, ar.hL, ar.du, ar.hR, fun ow G1 H1 g1 dow1 => ?_⟩
    have s1 := g1.keep
    have dow : Dq H1 ow (outsD (mFlat L R)) := dow1.of g1.sub
    refine ⟨_, rfl, _, _, rfl, rfl, ⟨by decide, by decide +kernel⟩, _, rfl, by show 3 ≤ sizeLine; decide, fun z hz => ?_⟩
    have sz : Same H1 (upd H1 z (.lst [.int 0, .int (far / 2), .int far])) := same_new hz
    have hzz : (upd H1 z (.lst [.int 0, .int (far / 2), .int far])) z = some (.lst [.int 0, .int (far / 2), .int far]) := upd_same
    refine ⟨z, rfl, ⟨_, sqL hzz⟩, fun D hD => ?_⟩
    generalize upd H1 z (.lst [.int 0, .int (far / 2), .int far]) = H2 at sz hzz hD ⊢
    have s2 := s1.trans sz
    refine lcR (R := fun G v (l : Int) => ∃ rs, Dq G v (dRs rs) ∧ LateRes L R half l rs) (G := H2) (H := H2) (G1 := H2) (fun i => [0, far / 2, far][i]?) (fun _ _ _ _ e ⟨rs, h1, h2⟩ => ⟨rs, h1.of e, h2⟩) (walkL (K := K) (a := z) (xs := [.int 0, .int (far / 2), .int far])) (by show 3 ≤ 100000; decide) (Gr.refl (Same.refl H2)) (fun Gi Hi g => g.keep _ _ hzz) hD (fun i y Gi Hi H' Ok No hi g yy ok no => ?_) fun G3 H3 xs3 g3 _ g3' hx3 ra => ?_
    · obtain ⟨rfl, hy⟩ := yy
      have hi3 : i = 0 ∨ i = 1 ∨ i = 2 := by simp at hi; omega
      have hl : ∃ l : Int, y = .int l ∧ 0 ≤ l ∧ l ≤ far ∧ [0, far / 2, far][i]? = some l := by
        rcases hi3 with rfl | rfl | rfl
        · exact ⟨0, (Option.some.inj hy).symm, by omega, by omega, rfl⟩
        · exact ⟨far / 2, (Option.some.inj hy).symm, by omega, by omega, rfl⟩
        · exact ⟨far, (Option.some.inj hy).symm, by omega, by omega, rfl⟩
      obtain ⟨l, rfl, h0, h1, h2⟩ := hl
      refine ⟨rfl, _, rfl, _, rfl, _, rfl, _, rfl, Gi, v, u, x, L, R, half, l, rfl, g.sub, ar.of (s2.trans g.ext) h0 (by omega), gd.cnt, fun y G4 H4 rs g4 dy n1 n2 n3 n4 => ?_⟩
      exact ok y G4 H4 l g4 ⟨rs, dy, ⟨n1, n2, n3, n4⟩⟩ h2
    · have em : made (fun i => [0, far / 2, far][i]?) [V.int 0, .int (far / 2), .int far].length = [0, far / 2, far] := rfl
      rw [em] at ra
      obtain ⟨v0, v1, v2, rfl, ⟨r0, d0, m0⟩, ⟨r1, d1, m1⟩, ⟨r2, d2, m2⟩⟩ : ∃ v0 v1 v2, xs3 = [v0, v1, v2] ∧ (∃ rs, Dq G3 v0 (dRs rs) ∧ LateRes L R half 0 rs) ∧ (∃ rs, Dq G3 v1 (dRs rs) ∧ LateRes L R half (far / 2) rs) ∧ (∃ rs, Dq G3 v2 (dRs rs) ∧ LateRes L R half far rs) := by
        cases ra with
        | cons h0 t0 =>
          cases t0 with
          | cons h1 t1 =>
            cases t1 with
            | cons h2 t2 =>
              cases t2
              exact ⟨_, _, _, rfl, h0, h1, h2⟩
      have hD3 := g3.sub _ _ hx3
      have e0 := d0.of g3.sub
      have e1 := d1.of g3.sub
      have e2 := d2.of g3.sub
      have s3 := s2.trans g3.keep
      have dow3 := (dow.of sz).of g3.keep
      clear d0 d1 d2 hx3 g3 g3' ra dow dow1 g1
      refine ⟨by show 2 ≤ sizeLine; decide, fun t ht => ?_⟩
      have st : Same H3 (upd H3 t (.tup [ow, .ref D])) := same_new ht
      have htt : (upd H3 t (.tup [ow, .ref D])) t = some (.tup [ow, .ref D]) := upd_same
      refine ⟨t, _, rfl, htt, rfl, _, _, rfl, _, _, rfl, rfl, ?_⟩
      generalize upd H3 t (.tup [ow, .ref D]) = Hb at st htt ⊢
      have hDb := st _ _ hD3
      have d0 := e0.of st
      have d1 := e1.of st
      have d2 := e2.of st
      have dow := dow3.of st
      have sb := s3.trans st
      clear e0 e1 e2 dow3 s3 st htt hD3
      have own1 : r0 = [mFlat L R] := m0.only gd (Int.le_refl 0) fun a ha hne => by have := gd.pos1 ha hne; omega
      subst own1
      obtain ⟨q1, ys1, rfl, hq1, t1⟩ := Dq.lstE d1
      obtain ⟨q2, ys2, rfl, hq2, t2⟩ := Dq.lstE d2
      have hy1 : ys1.length = r1.length := by rw [t1.length, List.length_map]
      have hy2 : ys2.length = r2.length := by rw [t2.length, List.length_map]
      have rl1 := m1.len
      have rl2 := m2.len
      -- rows[0] != [own]
      refine ⟨_, rfl, D, _, _, v0, rfl, rfl, hDb, atI_nat (j := 0) rfl, _, rfl, by show 1 ≤ sizeLine; decide, fun z1 hz1 => ?_⟩
      have x1 : Same Hb (upd Hb z1 (.lst [ow])) := same_new hz1
      have hz11 : (upd Hb z1 (.lst [ow])) z1 = some (.lst [ow]) := upd_same
      generalize upd Hb z1 (.lst [ow]) = Hc at x1 hz11 ⊢
      refine ⟨3, dRs [mFlat L R], dRs [mFlat L R], d0.of x1, ls hz11 (.one (dow.of x1)), by decide, fine_rs (forr m0), fine_rs (forr m0), fun c hc => ⟨c, rfl, ?_⟩⟩
      obtain rfl : c = false := by
        cases c with
        | false => rfl
        | true => exact absurd rfl (hc.mp rfl)
      clear hc hz11
      -- rows[1] within rows[2]
      refine ⟨_, rfl, D, _, _, V.ref q1, rfl, rfl, x1 _ _ hDb, atI_nat (j := 1) rfl, q1, rfl, ⟨_, sqL (x1 _ _ hq1)⟩, fun D5 hD5 => ?_⟩
      refine lcD (G := Hb) (G1 := Hb) (fun i => (none : Option PyData)) (walkL (K := K) (a := q1) (xs := ys1)) (by omega) ((Gr.refl (Same.refl Hb)).same x1) (fun Gi Hi g => g.keep _ _ (x1 _ _ hq1)) hD5 (fun i y Gi Hi H' Ok No hi g yy ok no => ?_) fun G5 H5 g5 g5' dq => ?_
      · obtain ⟨rfl, hy⟩ := yy
        obtain ⟨o, eo, dvo⟩ := getV_map t1 hy
        have hom := List.mem_of_getElem? eo
        have ho2 : o ∈ r2 := m1.mono m2 (by omega) o hom
        have sg : Same Hb H' := x1.trans g.keep
        refine ⟨rfl, _, rfl, _, rfl, D, _, _, V.ref q2, rfl, rfl, sg _ _ hDb, atI_nat (j := 2) rfl, 3, outsD o, r2.map outsD, dvo.of sg, d2.of sg, by decide, Fine.up (fine_outs (forr m1 o hom)), fine_rs (forr m2), fun c hc => ⟨c, rfl, ?_⟩⟩
        obtain rfl : c = false := by
          cases c with
          | false => rfl
          | true => exact absurd (List.mem_map.mpr ⟨o, ho2, rfl⟩) (hc.mp rfl)
        exact no Gi _ (Gr.refl g.sub) rfl
      have emp : made (fun _ => (none : Option PyData)) ys1.length = [] := by
        unfold made
        induction List.range ys1.length with
        | nil => rfl
        | cons a l ih => simpa using ih
      rw [emp] at dq
      have dq5 := dq.of g5.sub
      have x5 : Same Hb H5 := x1.trans g5'.keep
      clear dq g5 g5' hD5 x1
      refine ⟨Nat.zero_le _, fun z2 hz2 => ?_⟩
      have x6 : Same H5 (upd H5 z2 (.lst [])) := same_new hz2
      have hz22 : (upd H5 z2 (.lst [])) z2 = some (.lst []) := upd_same
      generalize upd H5 z2 (.lst []) = H6 at x6 hz22 ⊢
      refine ⟨1, .list [], .list [], dq5.of x6, ls hz22 .nil, by decide, (fun _ h => by cases h), (fun _ h => by cases h), fun c hc => ⟨c, rfl, ?_⟩⟩
      obtain rfl : c = false := by
        cases c with
        | false => rfl
        | true => exact absurd rfl (hc.mp rfl)
      clear hc hz22 dq5
      have x56 := x5.trans x6
      clear x5 x6
      -- own in rows[1]
      refine ⟨_, rfl, _, rfl, D, _, _, V.ref q1, rfl, rfl, x56 _ _ hDb, atI_nat (j := 1) rfl, 3, outsD (mFlat L R), r1.map outsD, dow.of x56, d1.of x56, by decide, Fine.up (fine_outs fow), fine_rs (forr m1), fun c hc => ⟨c, rfl, ?_⟩⟩
      obtain rfl : c = false := by
        cases c with
        | false => rfl
        | true => exact absurd (List.mem_map.mpr ⟨_, m1.own gd (by omega), rfl⟩) (hc.mp rfl)
      clear hc
      -- rows[2] != sorted(rows[2])
      obtain ⟨bs, b1, b2, b3⟩ := zip_dq t2
      refine ⟨_, rfl, D, _, _, V.ref q2, rfl, rfl, x56 _ _ hDb, atI_nat (j := 2) rfl, ?_⟩
      refine ⟨_, rfl, D, _, _, V.ref q2, rfl, rfl, x56 _ _ hDb, atI_nat (j := 2) rfl, ?_⟩
      refine ⟨q2, bs, rfl, sqL (by rw [b1]; exact x56 _ _ hq2), fun b hb => ((b3 b hb).of x56).dp, fun d hd d' hd' => ?_, fun b hb => ?_, fun b hb => ?_, fun p hp => ?_⟩
      · rw [b2] at hd hd'
        obtain ⟨o, _, rfl⟩ := List.mem_map.mp hd
        obtain ⟨o', _, rfl⟩ := List.mem_map.mp hd'
        show alike (.list _) (.list _) = true
        simp only [alike]
        exact outs_alikeAll o o'
      · have : b.2 ∈ bs.map (·.2) := List.mem_map.mpr ⟨b, hb, rfl⟩
        rw [b2] at this
        obtain ⟨o, _, e⟩ := List.mem_map.mp this
        rw [← e]
        exact ⟨fun z => (by cases z), fun xs z => (by cases z)⟩
      · have : b.2 ∈ bs.map (·.2) := List.mem_map.mpr ⟨b, hb, rfl⟩
        rw [b2] at this
        obtain ⟨o, _, e⟩ := List.mem_map.mp this
        rw [← e]
        exact Nat.le_trans outs_depth (by decide)
      rw [sorted_same b2 m2.ord, b1]
      have x7 : Same H6 (upd H6 p (.lst ys2)) := same_new hp
      have hpp : (upd H6 p (.lst ys2)) p = some (.lst ys2) := upd_same
      generalize upd H6 p (.lst ys2) = H7 at x7 hpp ⊢
      have x07 := x56.trans x7
      clear x56 x7
      refine ⟨3, dRs r2, dRs r2, d2.of x07, ls hpp (t2.of x07), by decide, fine_rs (forr m2), fine_rs (forr m2), fun c hc => ⟨c, rfl, ?_⟩⟩
      obtain rfl : c = false := by
        cases c with
        | false => rfl
        | true => exact absurd rfl (hc.mp rfl)
      clear hc hpp
      -- no two alike
      refine ⟨_, rfl, D, _, _, V.ref q2, rfl, rfl, x07 _ _ hDb, atI_nat (j := 2) rfl, ?_⟩
      refine ⟨_, rfl, D, _, _, V.ref q2, rfl, rfl, x07 _ _ hDb, atI_nat (j := 2) rfl, _, rfl, q2, _, rfl, x07 _ _ hq2, fun p2 hp2 => ?_⟩
      rw [cut1]
      have x8 : Same H7 (upd H7 p2 (.lst (ys2.drop 1))) := same_new hp2
      have hpp2 : (upd H7 p2 (.lst (ys2.drop 1))) p2 = some (.lst (ys2.drop 1)) := upd_same
      generalize upd H7 p2 (.lst (ys2.drop 1)) = H8 at x8 hpp2 ⊢
      have x08 := x07.trans x8
      clear x07 x8
      refine ⟨q2, p2, _, _, rfl, sqL (x08 _ _ hq2), sqL hpp2, fun D6 hD6 => ?_⟩
      refine lcD (G := Hb) (G1 := Hb) (fun i => (none : Option PyData)) (walkZ (K := K) (a := q2) (b := p2) (xs := ys2) (ys := ys2.drop 1) rfl) (by rw [List.length_drop]; omega) ((Gr.refl (Same.refl Hb)).same x08) (fun Gi Hi g => ⟨g.keep _ _ (x08 _ _ hq2), g.keep _ _ hpp2⟩) hD6 (fun i y Gi Hi H' Ok No hi g yy ok no => ?_) fun G9 H9 g9 g9' dq => ?_
      · obtain ⟨T2, y1, y2, rfl, hT2, rfl, f1, f2⟩ := yy
        obtain ⟨o, eo, dvo⟩ := getV_map t2 f1
        have td : DqAll Hb (ys2.drop 1) ((r2.drop 1).map outsD) := by rw [List.map_drop]; exact t2.drop 1
        obtain ⟨o', eo', dvo'⟩ := getV_map td f2
        have sg : Same Hb (upd Hi T2 (.tup [y1, y2])) := (x08.trans g.keep).trans (same_new hT2)
        have gT : Gr Gi Hi Gi (upd Hi T2 (.tup [y1, y2])) := (Gr.refl g.sub).tmp hT2
        have ne : o ≠ o' := by
          intro e
          rw [List.getElem?_drop, Nat.add_comm 1 i] at eo'
          obtain ⟨i1, e1⟩ := List.getElem?_eq_some_iff.mp eo
          obtain ⟨i2, e2⟩ := List.getElem?_eq_some_iff.mp eo'
          have := List.pairwise_iff_getElem.mp m2.nd i (i + 1) i1 i2 (by omega)
          exact this (by rw [e1, e2]; exact e)
        refine ⟨T2, _, rfl, upd_same, rfl, _, _, rfl, _, _, rfl, rfl, rfl, _, rfl, _, rfl, 2, outsD o, outsD o', dvo.of sg, dvo'.of sg, by decide, fine_outs (forr m2 o (List.mem_of_getElem? eo)), fine_outs (forr m2 o' (List.mem_of_mem_drop (List.mem_of_getElem? eo'))), fun c hc => ⟨c, rfl, ?_⟩⟩
        obtain rfl : c = false := by
          cases c with
          | false => rfl
          | true => exact absurd (outsD_inj.mp (hc.mp rfl)) ne
        exact no Gi _ gT rfl
      have emp2 : made (fun _ => (none : Option PyData)) (min ys2.length (ys2.drop 1).length) = [] := by
        unfold made
        induction List.range (min ys2.length (ys2.drop 1).length) with
        | nil => rfl
        | cons a l ih => simpa using ih
      rw [emp2] at dq
      have dq9 := dq.of g9.sub
      have x09 : Same Hb H9 := x08.trans g9'.keep
      clear dq g9 g9' hD6 x08 hpp2
      refine ⟨Nat.zero_le _, fun z3 hz3 => ?_⟩
      have x10 : Same H9 (upd H9 z3 (.lst [])) := same_new hz3
      have hz33 : (upd H9 z3 (.lst [])) z3 = some (.lst []) := upd_same
      generalize upd H9 z3 (.lst []) = H10 at x10 hz33 ⊢
      refine ⟨1, .list [], .list [], dq9.of x10, ls hz33 .nil, by decide, (fun _ h => by cases h), (fun _ h => by cases h), fun c hc => ⟨c, rfl, ?_⟩⟩
      obtain rfl : c = false := by
        cases c with
        | false => rfl
        | true => exact absurd rfl (hc.mp rfl)
      clear hc hz33 dq9
      have xa := x09.trans x10
      clear x09 x10
      -- safe
      refine ⟨_, rfl, _, rfl, _, rfl, _, rfl, H10, v, u, x, L, R, half, far, rfl, Same.refl H10, ar.of (sb.trans xa) f0 f9, fun H11 sf x11 h1 h2 h3 => ?_⟩
      have ms : SafeRes L R half far sf := ⟨h1, h2, h3⟩
      clear h1 h2 h3
      have xb := xa.trans x11
      clear xa x11
      have sf0 := ms.nn gd f0
      have sfl := ms.le
      have onlyS : ∀ {l : Int} {rs : List (List Out)}, LateRes L R half l rs → 0 ≤ l → l ≤ sf → rs = [mFlat L R] := fun r h0 hl => r.only gd h0 fun a ha hne => by have := ms.all a ha hne; omega
      -- 0 <= safe <= far; late_results(safe) == [own]
      refine ⟨_, rfl, _, _, rfl, rfl, _, rfl, iteB (fun _ => ?_) fun h => absurd h (by rw [decide_eq_true sf0]; exact nofun)⟩
      refine ⟨_, rfl, _, _, rfl, rfl, _, rfl, ?_⟩
      rw [decide_eq_true sfl]
      refine ⟨_, rfl, _, rfl, _, rfl, _, rfl, H11, v, u, x, L, R, half, sf, rfl, Same.refl H11, ar.of (sb.trans xb) sf0 (by omega), gd.cnt, fun y12 G12 H12 r12 g12 dy12 n1 n2 n3 n4 => ?_⟩
      have m12 : LateRes L R half sf r12 := ⟨n1, n2, n3, n4⟩
      have er12 := onlyS m12 sf0 (Int.le_refl _)
      subst er12
      have dy := Dq.of dy12 g12.sub
      have xc := xb.trans g12.keep
      clear dy12 g12 n1 n2 n3 n4 xb
      refine ⟨_, rfl, by show 1 ≤ sizeLine; decide, fun z4 hz4 => ?_⟩
      have x13 : Same H12 (upd H12 z4 (.lst [ow])) := same_new hz4
      have hz44 : (upd H12 z4 (.lst [ow])) z4 = some (.lst [ow]) := upd_same
      generalize upd H12 z4 (.lst [ow]) = H13 at x13 hz44 ⊢
      have xd := xc.trans x13
      refine ⟨3, dRs [mFlat L R], dRs [mFlat L R], dy.of x13, ls hz44 (.one (dow.of xd)), by decide, fine_rs (forr m0), fine_rs (forr m0), fun c hc => ⟨c, rfl, ?_⟩⟩
      obtain rfl : c = false := by
        cases c with
        | false => rfl
        | true => exact absurd rfl (hc.mp rfl)
      clear hc hz44 dy x13 xc
      -- one result just where nothing more is reached
      refine ⟨fun σ Hn => σ = [some zp, some v, some u, some x, some (.int far), some ow, some (.ref D), none, none, some (.int sf), none, none, none, none, none, none] ∧ Same Hb Hn, ?_, ?_⟩
      · refine ⟨_, rfl, _, rfl, rfl, _, rfl, D, _, _, V.ref q2, rfl, rfl, xd _ _ hDb, atI_nat (j := 2) rfl, q2, _, rfl, xd _ _ hq2, rfl, rfl, _, rfl, ?_⟩
        have one2 : (sf = far) ↔ (r2.length = 1) := by
          constructor
          · intro e
            rw [onlyS m2 f0 (by omega)]
            rfl
          · intro e
            by_cases h : sf = far
            · exact h
            · exfalso
              obtain ⟨a, ha, hne, hal⟩ := ms.next (by omega)
              have h1 : a.outs ∈ r2 := (m2.mem _).mpr ⟨a, ha, by omega, rfl⟩
              have := two_len' h1 (m2.own gd f0) hne
              omega
        have e1 : decide (V.int sf = V.int far) = decide (V.int (ys2.length : Int) = V.int 1) := decide_eq_decide.mpr (by
          rw [V.int.injEq, V.int.injEq, hy2, one2]
          omega)
        rw [e1]
        have e2 : (!decide (V.bl (decide (V.int (ys2.length : Int) = V.int 1)) = V.bl (decide (V.int (ys2.length : Int) = V.int 1)))) = false := by
          rw [decide_eq_true rfl]
          rfl
        rw [e2]
        refine ⟨_, rfl, _, rfl, _, _, rfl, rfl, _, rfl, iteB (fun h => ?_) fun h => ⟨rfl, xd⟩⟩
        have hlt : sf < far := of_decide_eq_true h
        refine ⟨_, rfl, _, rfl, _, rfl, _, rfl, _, _, rfl, rfl, H13, v, u, x, L, R, half, sf + 1, rfl, Same.refl H13, ar.of (sb.trans xd) (by omega) (by omega), gd.cnt, fun y14 G14 H14 r14 g14 dy14 n1 n2 n3 n4 => ?_⟩
        have m14 : LateRes L R half (sf + 1) r14 := ⟨n1, n2, n3, n4⟩
        obtain ⟨qy, yy, rfl, hqy, ty⟩ := Dq.lstE dy14
        have hyl : yy.length = r14.length := by rw [ty.length, List.length_map]
        have h2 : 2 ≤ r14.length := by
          obtain ⟨a, ha, hne, hal⟩ := ms.next hlt
          exact two_len' ((m14.mem _).mpr ⟨a, ha, by omega, rfl⟩) (m14.own gd (by omega)) hne
        refine ⟨qy, yy, rfl, g14.sub _ _ hqy, _, _, rfl, rfl, _, rfl, ?_⟩
        have e3 : decide ((yy.length : Int) < 2) = false := decide_eq_false (by omega)
        rw [e3]
        exact ⟨rfl, xd.trans g14.keep⟩
      rintro σ H14 ⟨rfl, xe⟩
      clear xd
      -- the greatest, asked again
      refine ⟨_, rfl, _, rfl, _, rfl, _, rfl, _, rfl, _, _, rfl, rfl, _, _, rfl, ?_⟩
      have hmin : ∃ l, l = (if sf + 3 < far then sf + 3 else far) ∧ 0 ≤ l ∧ l ≤ far ∧ sf ≤ l := by
        refine ⟨_, rfl, ?_, ?_, ?_⟩ <;> split <;> omega
      obtain ⟨lm, elm, lm0, lm9, lms⟩ := hmin
      rw [← elm]
      refine ⟨H14, v, u, x, L, R, half, lm, rfl, Same.refl H14, ar.of (sb.trans xe) lm0 (by omega), fun H15 s2 x15 h1 h2 h3 => ?_⟩
      have es2 : s2 = sf := ms.eq ⟨h1, h2, h3⟩ lms lm9
      subst es2
      clear h1 h2 h3
      refine ⟨_, rfl, rfl, _, rfl, ?_⟩
      have e4 : (!decide (V.int s2 = V.int s2)) = false := by rw [decide_eq_true rfl]; rfl
      rw [e4]
      have xf := xe.trans x15
      refine ⟨_, rfl, _, rfl, _, rfl, _, rfl, H15, v, u, x, L, R, half, s2, rfl, Same.refl H15, ar.of (sb.trans xf) sf0 (by omega), fun H16 s3 x16 h1 h2 h3 => ?_⟩
      have es3 : s3 = s2 := ms.eq ⟨h1, h2, h3⟩ (Int.le_refl _) sfl
      subst es3
      clear h1 h2 h3
      refine ⟨_, rfl, rfl, _, rfl, ?_⟩
      rw [e4]
      have xg := xf.trans x16
      clear xf x15 x16 xe
      -- told: the first two results and the last
      refine ⟨_, rfl, D, _, _, V.ref q2, rfl, rfl, xg _ _ hDb, atI_nat (j := 2) rfl, _, rfl, q2, _, rfl, xg _ _ hq2, fun p3 hp3 => ?_⟩
      have x17 : Same H16 (upd H16 p3 (.lst (cutV ys2 none (some 2)))) := same_new hp3
      have hp33 : (upd H16 p3 (.lst (cutV ys2 none (some 2)))) p3 = some (.lst (cutV ys2 none (some 2))) := upd_same
      generalize upd H16 p3 (.lst (cutV ys2 none (some 2))) = H17 at x17 hp33 ⊢
      refine ⟨_, rfl, D, _, _, V.ref q2, rfl, rfl, x17 _ _ (xg _ _ hDb), atI_nat (j := 2) rfl, _, rfl, _, rfl, q2, _, rfl, x17 _ _ (xg _ _ hq2), fun p4 hp4 => ?_⟩
      have x18 : Same H17 (upd H17 p4 (.lst (cutV ys2 (some (-1)) none))) := same_new hp4
      have hp44 : (upd H17 p4 (.lst (cutV ys2 (some (-1)) none))) p4 = some (.lst (cutV ys2 (some (-1)) none)) := upd_same
      --FIN
      have xh := (xg.trans x17).trans x18
      have hp33' := x18 _ _ hp33
      generalize upd H17 p4 (.lst (cutV ys2 (some (-1)) none)) = H18 at xh hp33' hp44 ⊢
      have cl1 := cutV_length ys2 none (some 2)
      have cl2 := cutV_length ys2 (some (-1)) none
      refine ⟨p3, p4, _, _, rfl, rfl, hp33', hp44, small (by omega), fun p5 hp5 => ?_⟩
      have hmem : ∀ y ∈ cutV ys2 none (some 2) ++ cutV ys2 (some (-1)) none, ∃ o ∈ r2, Dq Hb y (outsD o) := fun y hy => by
        have : y ∈ ys2 := by
          rcases List.mem_append.mp hy with h | h <;> exact cutV_mem h
        obtain ⟨i, hi⟩ := List.mem_iff_getElem?.mp this
        obtain ⟨o, eo, dvo⟩ := getV_map t2 hi
        exact ⟨o, List.mem_of_getElem? eo, dvo⟩
      have x19 : Same H18 (upd H18 p5 (.lst (cutV ys2 none (some 2) ++ cutV ys2 (some (-1)) none))) := same_new hp5
      have hp55 : (upd H18 p5 (.lst (cutV ys2 none (some 2) ++ cutV ys2 (some (-1)) none))) p5 = some (.lst (cutV ys2 none (some 2) ++ cutV ys2 (some (-1)) none)) := upd_same
      have xi := xh.trans x19
      generalize upd H18 p5 (.lst (cutV ys2 none (some 2) ++ cutV ys2 (some (-1)) none)) = H19 at xi hp55 ⊢
      generalize cutV ys2 none (some 2) ++ cutV ys2 (some (-1)) none = told at hmem hp55
      clear x19 x18 x17 hp33 hp33' hp44 xh cl1 cl2 xg
      refine ⟨p5, rfl, ⟨_, sqL hp55⟩, ?_⟩
      refine for_it (walkL (K := K) (a := p5) (xs := told)) (fun i σ H' => ∃ v10 v11, σ = [some zp, some v, some u, some x, some (.int far), some ow, some (.ref D), none, none, some (.int s3), v10, v11, none, none, none, none] ∧ Same H19 H') ⟨none, none, rfl, Same.refl _⟩ (fun i σ H' _ h => ?_) (fun i y σ H20 H21 hi h yy => ?_) fun σ H20 h => ?_
      · obtain ⟨_, _, _, s⟩ := h
        exact s _ _ hp55
      · obtain ⟨v10, v11, rfl, xj⟩ := h
        obtain ⟨rfl, hy⟩ := yy
        obtain ⟨o, ho, dvo⟩ := hmem y (List.mem_of_getElem? hy)
        have xk := xi.trans xj
        have sk := sb.trans xk
        have dy : Dq H21 y (outsD o) := dvo.of xk
        have foo : ∀ q ∈ o, Fine 1 (outD q) := forr m2 o ho
        refine ⟨_, rfl, _, rfl, _, rfl, _, rfl, _, rfl, H21, v, u, x, y, L, R, half, far, o, rfl, Same.refl H21, ar.of sk f0 f9, dy, foo, fun y2 G22 H22 g22 dy2 => ?_⟩
        obtain ⟨a1, ha1, hl1, ho1, ed1⟩ := delays_some ((m2.mem o).mp ho)
        rw [ed1] at dy2
        have dy22 : Dq H22 y2 (intsD a1.delays) := dy2.of g22.sub
        obtain ⟨qd, ds, rfl, hqd, td⟩ := Dq.lstE dy22
        obtain rfl := dp_intsE td
        have xl := xk.trans g22.keep
        have cont : ∀ (H' : Hp), Same H22 H' → (∃ v10 v11, [some zp, some v, some u, some x, some (V.int far), some ow, some (V.ref D), none, none, some (V.int s3), some y, some (V.ref qd), none, none, none, none] = [some zp, some v, some u, some x, some (V.int far), some ow, some (V.ref D), none, none, some (V.int s3), v10, v11, none, none, none, none] ∧ Same H19 H') := fun H' sh => ⟨_, _, rfl, (xj.trans g22.keep).trans sh⟩
        refine ⟨_, rfl, rfl, _, rfl, iteB (fun h => by cases h) fun _ => ?_⟩
        refine ⟨_, rfl, _, rfl, 2, outsD o, outsD (mFlat L R), dvo.of xl, dow.of xl, by decide, fine_outs foo, fine_outs fow, fun c hc => ⟨c, rfl, ?_⟩⟩
        have step2 : ∀ (mv : V) (Hn : Hp) (Qq : Prop), (∀ b : Bool, b = false → Qq) → Qq := fun _ _ _ h => h false rfl
        have tail : ∀ H23, Same H22 H23 → ∀ (y3 : V) G23 H24, Gr H23 H23 G23 H24 → Dq G23 y3 (optInts (mDelays L R half s3 o)) → o = mFlat L R → y3 ≠ V.non := fun H23 _ y3 G23 H24 _ dy3 eo => by
          obtain ⟨a, ha, h0, hoo⟩ := gd.zero
          obtain ⟨a2, _, _, _, e2⟩ := delays_some (l := s3) ⟨a, ha, by omega, hoo.trans eo.symm⟩
          rw [e2] at dy3
          obtain ⟨q3, _, rfl, _, _⟩ := Dq.lstE dy3
          nofun
        by_cases eo : o = mFlat L R
        · obtain rfl : c = false := by
            cases c with
            | false => rfl
            | true => exact absurd (congrArg outsD eo) (hc.mp rfl)
          dsimp only
          refine ⟨_, rfl, _, rfl, _, rfl, _, rfl, _, rfl, H22, v, u, x, y, L, R, half, s3, o, rfl, Same.refl H22, ar.of (sb.trans xl) sf0 (by omega), dvo.of xl, foo, fun y3 G23 H23 g23 dy3 => ?_⟩
          have nn := tail H22 (Same.refl _) y3 G23 H23 g23 dy3 eo
          refine ⟨rfl, _, rfl, ?_⟩
          have e7 : decide (y3 = V.non) = false := decide_eq_false nn
          rw [e7]
          exact cont _ g23.keep
        · obtain rfl : c = true := by
            cases c with
            | true => rfl
            | false => exact absurd (hc.mpr fun e => eo (outsD_inj.mp e)) (by decide)
          dsimp only
          have hpos : s3 < a1.least := by
            have := ms.all a1 ha1 (by rw [ho1]; exact eo)
            omega
          obtain ⟨dd, hdd, hle⟩ := gd.dly a1 ha1 (by omega)
          refine ⟨_, rfl, qd, _, rfl, hqd, List.length_pos_of_mem hdd, fun mx hmx hall => ?_⟩
          refine ⟨_, rfl, _, _, rfl, rfl, _, rfl, ?_⟩
          have e8 : decide (mx ≤ s3) = false := decide_eq_false (by have := hall dd hdd; omega)
          rw [e8]
          dsimp only
          refine ⟨_, rfl, _, rfl, _, rfl, _, rfl, _, rfl, H22, v, u, x, y, L, R, half, s3, o, rfl, Same.refl H22, ar.of (sb.trans xl) sf0 (by omega), dvo.of xl, foo, fun y3 G23 H23 g23 dy3 => ?_⟩
          refine ⟨rfl, _, rfl, iteB (fun _ => ?_) fun _ => ?_⟩
          · refine ⟨_, rfl, _, rfl, 2, outsD o, outsD (mFlat L R), dvo.of (xl.trans g23.keep), dow.of (xl.trans g23.keep), by decide, fine_outs foo, fine_outs fow, fun c hc => ⟨c, rfl, ?_⟩⟩
            obtain rfl : c = false := by
              cases c with
              | false => rfl
              | true => exact absurd (outsD_inj.mp (hc.mp rfl)) eo
            exact cont _ g23.keep
          · exact cont _ g23.keep
      · obtain ⟨v10, v11, rfl, xj⟩ := h
        have xk := xi.trans xj
        have sk := sb.trans xk
        clear xj
        -- own and one more
        refine ⟨_, rfl, by show 2 ≤ sizeLine; decide, ?_⟩
        refine fun z5 hz5 => ?_
        have x21 : Same H20 (upd H20 z5 (.tup [.str (PySem.Str.ofString "press"), .str (PySem.Str.ofString "zz")])) := same_new hz5
        have hz55 : (upd H20 z5 (.tup [.str (PySem.Str.ofString "press"), .str (PySem.Str.ofString "zz")])) z5 = some (.tup [.str (PySem.Str.ofString "press"), .str (PySem.Str.ofString "zz")]) := upd_same
        generalize upd H20 z5 (.tup [.str (PySem.Str.ofString "press"), .str (PySem.Str.ofString "zz")]) = H21 at x21 hz55 ⊢
        refine ⟨by show 1 ≤ sizeLine; decide, fun z6 hz6 => ?_⟩
        have x22 : Same H21 (upd H21 z6 (.lst [.ref z5])) := same_new hz6
        have hz66 : (upd H21 z6 (.lst [.ref z5])) z6 = some (.lst [.ref z5]) := upd_same
        have hz56 := x22 _ _ hz55
        generalize upd H21 z6 (.lst [.ref z5]) = H22 at x22 hz66 hz56 ⊢
        have xl := (xk.trans x21).trans x22
        obtain ⟨qo, xo, eow, hqo, to⟩ := (dow.of xl).lstE
        have hfl := flat_len (L := L) ar.hR.len
        have hxo : xo.length = (mFlat L R).length := by rw [to.length, List.length_map]
        refine ⟨qo, z6, xo, _, eow, rfl, hqo, hz66, small (by show xo.length + 1 ≤ _; omega), fun z7 hz7 => ?_⟩
        have x23 : Same H22 (upd H22 z7 (.lst (xo ++ [.ref z5]))) := same_new hz7
        have hz77 : (upd H22 z7 (.lst (xo ++ [.ref z5]))) z7 = some (.lst (xo ++ [.ref z5])) := upd_same
        generalize upd H22 z7 (.lst (xo ++ [.ref z5])) = H23 at x23 hz77 ⊢
        have dz5 : Dq H22 (.ref z5) (outD (some (true, PySem.Str.ofString "zz"))) := tp hz56 (.cons (.str _) (.cons (.str _) .nil))
        have doth : Dq H23 (.ref z7) (outsD (mFlat L R ++ [(some (true, ("zz" : PySem.Str)) : Out)])) := by
          have := (dq_snoc to dz5).of x23
          unfold outsD
          rw [List.map_append]
          exact ls hz77 this
        have xm := xl.trans x23
        clear x21 x22 x23 xl xk hz55 hz66 hz56 hz77 dz5 to hqo
        refine ⟨_, rfl, _, rfl, ?_⟩
        dsimp only [tNil]
        refine far_of (ar.du.of (sb.trans xm)) (ar.dx.of (sb.trans xm)) ar.R8 fun H24 no x24 hno => ?_
        refine ⟨_, rfl, _, rfl, ?_⟩
        dsimp only [tNil]
        refine slack_of (ar.dv.of (sb.trans (xm.trans x24))) ar.hL (ar.du.of (sb.trans (xm.trans x24))) ar.hR fun H25 mo x25 hmo => ?_
        have xn := (xm.trans x24).trans x25
        have doth25 := doth.of (x24.trans x25)
        clear x24 x25 doth xm
        refine ⟨_, _, rfl, ?_⟩
        refine ⟨_, rfl, _, rfl, _, rfl, by show 3 ≤ sizeLine; decide, fun z8 hz8 => ?_⟩
        have x26 : Same H25 (upd H25 z8 (.lst ([no, mo, some far].map optV))) := same_new hz8
        have hz88 : (upd H25 z8 (.lst ([no, mo, some far].map optV))) z8 = some (.lst ([no, mo, some far].map optV)) := upd_same
        have x27 := xn.trans x26
        have doth26 := doth25.of x26
        have eup : upd H25 z8 (.lst [optV no, optV mo, V.int far]) = upd H25 z8 (.lst ([no, mo, some far].map optV)) := rfl
        rw [eup]
        generalize upd H25 z8 (.lst ([no, mo, some far].map optV)) = H26 at x27 hz88 doth26 ⊢
        clear x26 eup doth25 xn
        refine ⟨z8, rfl, ⟨_, sqL hz88⟩, fun D9 hD9 => ?_⟩
        refine lcD (G := H26) (G1 := H26) (fun j => ([no, mo, some far][j]?).bind fun q => q.map PyData.int) (walkL (K := K) (a := z8) (xs := [no, mo, some far].map optV)) (by show 3 ≤ 100000; decide) (Gr.refl (Same.refl H26)) (fun Gi Hi g => g.keep _ _ hz88) hD9 (fun i y Gi Hi H' Ok No hi g yy ok no' => ?_) fun G27 H27 g27 g27' dq => ?_
        · obtain ⟨rfl, hy⟩ := yy
          rw [List.getElem?_map] at hy
          obtain ⟨q, eq, rfl⟩ := Option.map_eq_some_iff.mp hy
          refine ⟨rfl, _, rfl, rfl, _, rfl, ?_⟩
          cases q with
          | none => exact no' Gi _ (Gr.refl g.sub) (by show (([no, mo, some far][i]?).bind _) = _; rw [eq]; rfl)
          | some m => exact ⟨_, rfl, ok _ Gi _ _ (Gr.refl g.sub) (.int _) (by show (([no, mo, some far][i]?).bind _) = _; rw [eq]; rfl)⟩
        · have em : made (fun j => ([no, mo, some far][j]?).bind fun q => q.map PyData.int) ([no, mo, some far].map optV).length = ([no, mo, some far].filterMap id).map PyData.int := by
            rw [List.length_map, made_get]
            cases no <;> cases mo <;> rfl
          rw [em] at dq
          obtain ⟨D', rs, e2, hDs, trs⟩ := dq.lstE
          cases e2
          obtain rfl := dp_intsE trs
          have xo7 := x27.trans g27'.keep
          refine ⟨D9, _, rfl, g27.sub _ _ hDs, ?_, fun mn hmn hall => ?_⟩
          · exact List.length_pos_of_mem (a := far) (by rw [List.mem_filterMap]; exact ⟨some far, by simp, rfl⟩)
          have hin : ∀ q, some q ∈ [no, mo, some far] → mn ≤ q := fun q hq => hall q (List.mem_filterMap.mpr ⟨_, hq, rfl⟩)
          have hle : mn ≤ s3 := by
            rcases ms.at_ with e | ⟨a, ha, hne, e⟩
            · have := hin far (by simp)
              omega
            · rcases gd.near a ha hne with ⟨m, hm, hlt⟩ | ⟨m, hm, hlt⟩
              · cases no with
                | none => rw [show nearL R half = [] from hno] at hm; cases hm
                | some m1 =>
                  have h1 := hno.2 m hm
                  have h2 := hin m1 (by simp)
                  omega
              · cases mo with
                | none => rw [show mMargins L R = [] from hmo] at hm; cases hm
                | some m1 =>
                  have h1 := hmo.2 m hm
                  have h2 := hin m1 (by simp)
                  omega
          refine ⟨_, rfl, _, rfl, _, _, rfl, rfl, _, rfl, ?_⟩
          rw [decide_eq_true hle]
          refine ⟨_, rfl, _, rfl, _, rfl, _, rfl, _, rfl, H27, v, u, x, V.ref z7, L, R, half, far, _, rfl, Same.refl H27, ar.of (sb.trans xo7) f0 f9, doth26.of g27'.keep, ?_, fun y3 G28 H28 g28 dy3 => ?_⟩
          · intro q hq
            rcases List.mem_append.mp hq with h | h
            · exact fow q h
            · obtain rfl := List.mem_singleton.mp h
              exact fine_zz1
          rw [delays_none (l := far) fun a ha => gd.zz a ha] at dy3
          cases dy3
          refine ⟨rfl, ?_⟩
          exact k _ ((sb.trans xo7).trans g28.keep)
end
end HT8
end partW27
section partM3
set_option Elab.async false
set_option linter.all false
set_option maxRecDepth 100000
namespace HT8
open PySem PySem.Spec PyProof.Rows L2 HT5 HT6 HT7
/-- the greatest safe number, by looking -/
def safeIs (L : Lay) (R : List Ev) (half : List Int) (most s : Int) : Bool :=
  (mArrivals L R half).all (fun a => decide (a.outs = mFlat L R) || decide (s ≤ a.least - 1)) && decide (s ≤ most) && (decide (s = most) || (mArrivals L R half).any fun a => !decide (a.outs = mFlat L R) && decide (s = a.least - 1))
theorem safeIs_eq {L : Lay} {R : List Ev} {half : List Int} {most s x : Int} (h : safeIs L R half most s = true) (r : SafeRes L R half most x) : x = s := by
  unfold safeIs at h
  simp only [Bool.and_eq_true, Bool.or_eq_true, List.all_eq_true, List.any_eq_true, decide_eq_true_eq, Bool.not_eq_true', decide_eq_false_iff_not] at h
  obtain ⟨⟨h1, h2⟩, h3⟩ := h
  have a1 : x ≤ s := by
    rcases h3 with rfl | ⟨a, ha, hne, e⟩
    · exact r.le
    · have := r.all a ha hne; omega
  have a2 : s ≤ x := by
    rcases r.at_ with rfl | ⟨a, ha, hne, e⟩
    · exact h2
    · rcases h1 a ha with q | q
      · exact absurd q hne
      · omega
  omega
/-! ### the written examples -/
def xL : Lay := [[.dual "a" (.code "b") 9 "time", .w (.code "x")]]
def xR : List Ev := [⟨0, 0, true⟩, ⟨4, 0, false⟩]
def xR2 : List Ev := [⟨0, 0, true⟩, ⟨4, 0, false⟩, ⟨20, 1, true⟩, ⟨21, 1, false⟩, ⟨22, 1, true⟩, ⟨23, 1, false⟩]
def xR3 : List Ev := [⟨0, 0, true⟩, ⟨4, 0, false⟩, ⟨7, 1, true⟩]
theorem x1 : safeIs xL xR [] 100 100 = true := by decide +kernel
theorem x2 : safeIs xL xR [0] 100 4 = true := by decide +kernel
theorem x3 : safeIs xL xR [1] 100 100 = true := by decide +kernel
theorem x4 : safeIs xL xR2 [0] 12 4 = true := by decide +kernel
theorem x5 : safeIs xL xR3 [0] 100 3 = true := by decide +kernel
theorem x6 : safeIs xL xR3 [1] 100 100 = true := by decide +kernel
theorem x7 : safeIs xL xR3 [0, 1] 100 4 = true := by decide +kernel
theorem xLOk : LayOk xL := by
  refine ⟨by decide, by decide, by decide, by decide, fun r hr => ?_, fun i r hi a ha => ?_⟩
  · obtain rfl := List.mem_singleton.mp hr
    rfl
  · have h0 : i = 0 := by
      have := (List.getElem?_eq_some_iff.mp hi).1
      simp [xL] at this
      exact this
    subst h0
    obtain rfl := Option.some.inj hi
    rcases List.mem_cons.mp ha with rfl | ha
    · exact ⟨⟨by decide +kernel, by decide +kernel, by decide +kernel⟩, ⟨by decide +kernel, by decide +kernel, by decide +kernel⟩, by decide, by decide, by decide +kernel⟩
    · obtain rfl := List.mem_singleton.mp ha
      exact ⟨by decide +kernel, by decide +kernel, by decide +kernel⟩
theorem xROk : RecOk (mWide xL) xR := ⟨by decide, by decide, by decide, by simp [stepsOk, xR, Ev.stp]⟩
theorem xR2Ok : RecOk (mWide xL) xR2 := ⟨by decide, by decide, by decide, by simp [stepsOk, xR2, Ev.stp]⟩
theorem xR3Ok : RecOk (mWide xL) xR3 := ⟨by decide, by decide, by decide, by simp [stepsOk, xR3, Ev.stp]⟩
theorem xH0 : HalfOk xL [] := ⟨by decide, by decide⟩
theorem xH1 : HalfOk xL [0] := ⟨by decide, by decide⟩
theorem xH2 : HalfOk xL [1] := ⟨by decide, by decide⟩
theorem xH3 : HalfOk xL [0, 1] := ⟨by decide, by decide⟩
end HT8
end partM3
section partW28
set_option Elab.async false
set_option linter.all false
set_option maxRecDepth 100000
namespace HT8
open PySem PySem.Spec PyProof.Rows L2 HT5 HT6 HT7
open PySem.W (alike alikeAll dataLt dataLe AllAlike)
theorem sqL_mono {K : PySem.W.Frag} {G G' : Hp} {a : Addr} {xs : List V} (e : Same G G') (h : SqL K G a xs) : SqL K G' a xs := by
  rcases h with (h | ⟨o, h⟩) | h
  · exact .inl (.inl (e _ _ h))
  · exact .inl (.inr ⟨o, e _ _ h⟩)
  · exact .inr h
theorem dpAll_ints {K : PySem.W.Frag} {H : Hp} : ∀ ns : List Int, DpAll K H (ns.map V.int) (ns.map PyData.int)
  | [] => .nil
  | i :: ns => .cons (.int i) (dpAll_ints ns)
theorem fine_ints1 (ns : List Int) : Fine 1 (.list (ns.map PyData.int)) := by
  intro x hx
  obtain ⟨i, _, rfl⟩ := List.mem_map.mp hx
  exact trivial
theorem ifC {c : Bool} {x y : V} {σ : L2.St} {H : Hp} {k : VK} (h : k (if c = true then x else y) H) : if c = true then tC x σ H k else tC y σ H k := by
  cases c <;> exact h
theorem eqv_nil (ns : List Int) : PyData.eqv (.list (ns.map PyData.int)) (.list []) = decide (ns = []) := by
  have h := eqv_iff (n := 1) (.list (ns.map PyData.int)) (.list []) (fine_ints1 ns) (fine_ints1 [])
  cases ns with
  | nil => exact h.mpr rfl
  | cons i r =>
    rw [decide_eq_false (by simp)]
    cases e : PyData.eqv (.list (((i :: r) : List Int).map PyData.int)) (.list []) with
    | false => rfl
    | true => exact absurd (h.mp e) (by simp)
/-! ### one case drawn -/
structure Case where
  L : Lay
  R : List Ev
  half : List Int
  far : Int
  po : Po
def halfGo (p : Po) : Nat → List Int × Po
  | 0 => ([], p)
  | n + 1 => (if (mDraw (halfGo p n).2 2).1 = 0 then (halfGo p n).1 ++ [(n : Int)] else (halfGo p n).1, (mDraw (halfGo p n).2 2).2)
def mOften (i : Int) : Int := if i = 0 then 3 else if i = 1 then 5 else 8
def mMany (size : Int) (a b : Int) : Int := if size < 8 then (if b = 0 then size else a) else size
def mCase (p : Po) (wide tall top size : Int) : Case :=
  let d1 := mDraw p 3
  let y := mLayout d1.2 wide tall top (mOften d1.1)
  let d2 := mDraw y.2 (size + 1)
  let d3 := mDraw d2.2 2
  let o := mOrd (min 4 (mWide y.1 : Int)) d3.2 (mMany size d2.1 d3.1).toNat
  let d4 := mDraw o.po 2
  let t := mTimed d4.2 o.fs (if d4.1 = 0 then 5 else top)
  let h := halfGo t.po (mWide y.1)
  let d5 := mDraw h.2 4
  let d6 := mDraw d5.2 3
  ⟨y.1, t.es, h.1, if d6.1 = 0 then d5.1 else if d6.1 = 1 then top else 1000000000, d6.2⟩
theorem half_facts (p : Po) : ∀ n, (∀ k ∈ (halfGo p n).1, 0 ≤ k ∧ k < n) ∧ (halfGo p n).1.Pairwise (· < ·) ∧ (halfGo p n).1.length ≤ n ∧ Le p (halfGo p n).2 n
  | 0 => ⟨(fun _ h => by cases h), .nil, Nat.le_refl _, Le.refl p⟩
  | n + 1 => by
    obtain ⟨h1, h2, h3, h4⟩ := half_facts p n
    have l := draw_le (halfGo p n).2 (m := 2) (by decide)
    unfold halfGo
    dsimp only
    refine ⟨fun k hk => ?_, ?_, ?_, (h4.trans l).mono (by omega)⟩
    · split at hk
      · rcases List.mem_append.mp hk with h | h
        · have := h1 k h; omega
        · rw [List.mem_singleton.mp h]; omega
      · have := h1 k hk; omega
    · split
      · rw [List.pairwise_append]
        exact ⟨h2, by simp, fun x hx y hy => by rw [List.mem_singleton.mp hy]; exact (h1 x hx).2⟩
      · exact h2
    · split
      · simp; omega
      · omega
theorem pool_ok (ns : List Int) (at_ : Nat) (h : at_ ≤ 2 := by omega) : PoOk (mPool ns at_) := by
  have h1 := Int.emod_nonneg (cellAt ns at_) (b := 2305843009213693951) (by decide)
  have h2 := Int.emod_lt_of_pos (cellAt ns at_) (b := 2305843009213693951) (by decide)
  refine ⟨Int.le_max_left _ _, ?_, ?_, Int.le_refl _, by show (0 : Int) ≤ 2 ^ 40; decide⟩
  · show 0 ≤ cellAt ns at_ % 2305843009213693951 + 7919 * ((at_ : Int) + 1)
    omega
  · show cellAt ns at_ % 2305843009213693951 + 7919 * ((at_ : Int) + 1) < 2 ^ 62
    omega
theorem at3 {x y z : V} {i : Int} (h0 : 0 ≤ i) (h3 : i < 3) : atI [x, y, z] i = some (if i = 0 then x else if i = 1 then y else z) := by
  have : i = 0 ∨ i = 1 ∨ i = 2 := by omega
  rcases this with rfl | rfl | rfl <;> rfl
theorem at2 {x y : V} {i : Int} (h0 : 0 ≤ i) (h3 : i < 2) : atI [x, y] i = some (if i = 0 then x else y) := by
  have : i = 0 ∨ i = 1 := by omega
  rcases this with rfl | rfl <;> rfl
theorem many_at {size a b : Int} (h0 : 0 ≤ b) (h2 : b < 2) : CMulW (if decide (size < 8) = true then 1 else 0) b ∧ 0 ≤ (if decide (size < 8) = true then 1 else 0) * b ∧ (if decide (size < 8) = true then 1 else 0) * b < 2 ∧ (if (if decide (size < 8) = true then 1 else 0) * b = 0 then V.int size else V.int a) = V.int (mMany size a b) := by
  unfold mMany
  have : b = 0 ∨ b = 1 := by omega
  by_cases h : size < 8
  · rw [decide_eq_true h, if_pos h]
    rcases this with rfl | rfl <;> exact ⟨by show _ < _; decide +kernel, by decide, by decide, rfl⟩
  · rw [decide_eq_false h, if_neg h]
    rcases this with rfl | rfl <;> exact ⟨by show _ < _; decide +kernel, by decide, by decide, rfl⟩
theorem many_in {size a b : Int} (hs : 1 ≤ size ∧ size ≤ 8) (ha : 0 ≤ a ∧ a < size + 1) : 0 ≤ mMany size a b ∧ mMany size a b ≤ 8 := by
  unfold mMany
  split
  · split <;> omega
  · omega
theorem lay_row0 {G : Hp} {v : V} {L : Lay} (d : Dq G v (layD L)) (hL : LayOk L) : ∃ q x0 xs r ys, v = .ref q ∧ G q = some (.lst (x0 :: xs)) ∧ x0 = .ref r ∧ G r = some (.lst ys) ∧ ys.length = mWide L := by
  obtain ⟨q, vs, rfl, hq, t⟩ := d.lstE
  cases L with
  | nil => exact absurd hL.h1 (by decide)
  | cons r0 rows =>
    cases t with
    | cons h0 t0 =>
      obtain ⟨r, ys, rfl, hr, tr⟩ := h0.lstE
      exact ⟨q, _, _, r, ys, rfl, hq, rfl, hr, by rw [tr.length, List.length_map]; rfl⟩
theorem min4 (n : Nat) : (if (n : Int) < 4 then (n : Int) else 4) = min 4 (n : Int) := by
  split <;> omega
/-- the three cases -/
def caseAt (ns : List Int) (i : Nat) : Int × Int × Int × Int := if i = 0 then (4, 3, 9, if ns = [] then 8 else 4) else if i = 1 then (16, 6, 1000000, 4) else (3, 2, 4, 3)
def poAt (ns : List Int) (at_ : Nat) : Nat → Po
  | 0 => mPool ns at_
  | i + 1 => (mCase (poAt ns at_ i) (caseAt ns i).1 (caseAt ns i).2.1 (caseAt ns i).2.2.1 (caseAt ns i).2.2.2).po
def theCase (ns : List Int) (at_ i : Nat) : Case := mCase (poAt ns at_ i) (caseAt ns i).1 (caseAt ns i).2.1 (caseAt ns i).2.2.1 (caseAt ns i).2.2.2
def sp_law (K : PySem.W.Frag) : Sp := fun vs H Q _ => ∃ (a : Addr) (ns : List Int), vs = [.ref a] ∧ SqL K H a (ns.map V.int) ∧ ns.length ≤ 63 ∧ (∀ at_ i, at_ < max 1 (min 2 ns.length) → i < 3 → Sound (theCase ns at_ i).L (theCase ns at_ i).R (theCase ns at_ i).half) ∧ ∀ H', Same H H' → Q (.bl true) H'
section
variable {P : Program} {w : World} {K : PySem.W.Frag} {mg : Str → Option Value} {base : Heap}
abbrev slaw : Stmt := top 69
abbrev Nlaw : List PySem.Str := ["_law_script", "_law_at", "_law_pool_here", "_law_wide", "_law_tall", "_law_top", "_law_size", "_law_layout_here", "_law_many", "_law_record", "_law_half", "_law_key", "_law_told", "_law_longer"]
abbrev Plaw : List PySem.Str := ["_law_script"]
theorem sclaw : FnScope Nlaw Plaw (defScope slaw) := ⟨rfl, rfl, rfl, by decide +kernel, rfl, by decide +kernel, by decide +kernel⟩
set_option maxHeartbeats 4000000 in
theorem ok_law {f : Addr} {fd : FuncData} (F : Fun K "law" "law" slaw f fd) (B : Bt mg) (c__law_pool : C8.Cal P w K mg base 1 "_law_pool" (sp_law_pool K) []) (c__law_draw : C8.Cal P w K mg base 1 "_law_draw" sp_law_draw []) (c__law_layout : C8.Cal P w K mg base 3 "_law_layout" sp_law_layout []) (c__law_order : C8.Cal P w K mg base 2 "_law_order" sp_law_order []) (c__law_timed : C8.Cal P w K mg base 2 "_law_timed" sp_law_timed []) (c__law_right : C8.Cal P w K mg base 12 "_law_right" sp_law_right []) (c_safe_late : C8.Cal P w K mg base 11 "safe_late" sp_safe_late []) : FnOk P w K mg base CX0 13 f fd Plaw (sp_law K) := by
  refine F.ok sclaw (fun vs H Q E h => ?_) (fun cdv A outer s H vs Q E hr h => ?_)
  · obtain ⟨a, ns, rfl, _⟩ := h
    rfl
  · obtain ⟨a, ns, rfl, hS, h63, hgd, k⟩ := h
    have nd := sclaw.nd
    have hu64 := hr.units
    have hu65 := hu65_of hr
    refine ⟨_, (pss_cons (ps_for PassesOwn.never rfl (pi_range1 rfl B.range (pa_cons (pe_callB (call_max2 rfl) (by rfl) B.max (by decide +kernel) (pa_cons pe_int (pa_cons (pe_callB (call_min2 rfl) (by rfl) B.min (by decide +kernel) (pa_cons pe_int (pa_cons (pe_callB call_len_seq (by rfl) B.len (by decide +kernel) (pa_cons (pv 0) pa_nil)) pa_nil))) pa_nil))) pa_nil)) (pg_name (i := 1) nd rfl (Or.inl rfl)) (pss_cons (ps_set (i := 2) nd rfl (Or.inr rfl) (C8.pe_c c__law_pool hr (by decide) rfl (pa_cons (pv 0) (pa_cons (pv 1) pa_nil))))
    (pss_one (ps_for PassesOwn.never rfl (pi_list (pe_lst (pa_cons (pe_tup (pa_cons pe_int (pa_cons pe_int (pa_cons pe_int (pa_cons (pe_ifExp (pt_cmpR (op_eqD hr.units) (pv 0) (pe_lst pa_nil) (by first | exact nomark _ | rfl)) pe_int pe_int) pa_nil))))) (pa_cons (pe_tup (pa_cons pe_int (pa_cons pe_int (pa_cons (pe_op op_pow pe_int pe_int) (pa_cons pe_int pa_nil))))) (pa_cons (pe_tup (pa_cons pe_int (pa_cons pe_int (pa_cons pe_int (pa_cons pe_int pa_nil))))) pa_nil))))) (pg_tupq (n := 4) rfl (pgs_cons (pg_name (i := 3) nd rfl (Or.inl rfl)) (pgs_cons (pg_name (i := 4) nd rfl (Or.inl rfl)) (pgs_cons (pg_name (i := 5) nd rfl (Or.inl rfl)) (pgs_cons (pg_name (i := 6) nd rfl (Or.inl rfl)) pgs_nil))))) (pss_cons (ps_set (i := 7) nd rfl (Or.inr rfl) (C8.pe_c c__law_layout hr (by decide) rfl (pa_cons (pv 2) (pa_cons (pv 3) (pa_cons (pv 4) (pa_cons (pv 5) (pa_cons (pe_ix ixlq (pe_lst (pa_cons pe_int (pa_cons pe_int (pa_cons pe_int pa_nil)))) (C8.pe_c c__law_draw hr (by decide) rfl (pa_cons (pv 2) (pa_cons pe_int pa_nil))) (fun _ _ => rfl)) pa_nil)))))))
    (pss_cons (ps_set (i := 8) nd rfl (Or.inl rfl) (pe_ix ixlq (pe_lst (pa_cons (pv 6) (pa_cons (C8.pe_c c__law_draw hr (by decide) rfl (pa_cons (pv 2) (pa_cons (pe_op op_add (pv 6) pe_int) pa_nil))) pa_nil))) (pe_op op_mulW (pe_callTy call_int1 (by rfl) B.int (by decide +kernel) (pa_cons (pe_cmpR op_lt (pv 6) pe_int (by first | exact nomark _ | rfl)) pa_nil)) (C8.pe_c c__law_draw hr (by decide) rfl (pa_cons (pv 2) (pa_cons pe_int pa_nil)))) (fun _ _ => rfl)))
    (pss_cons (ps_set (i := 9) nd rfl (Or.inr rfl) (C8.pe_c c__law_timed hr (by decide) rfl (pa_cons (pv 2) (pa_cons (C8.pe_c c__law_order hr (by decide) rfl (pa_cons (pv 2) (pa_cons (pe_callB (call_min2 rfl) (by rfl) B.min (by decide +kernel) (pa_cons pe_int (pa_cons (pe_callB lenLq (by rfl) B.len (by decide +kernel) (pa_cons (pe_ix ixlq (pv 7) pe_int (fun _ _ => rfl)) pa_nil)) pa_nil))) (pa_cons (pv 8) pa_nil)))) (pa_cons (pe_ix ixlq (pe_lst (pa_cons pe_int (pa_cons (pv 5) pa_nil))) (C8.pe_c c__law_draw hr (by decide) rfl (pa_cons (pv 2) (pa_cons pe_int pa_nil))) (fun _ _ => rfl)) pa_nil)))))
    (pss_cons (ps_setLc (i := 10) (own := [("_law_key", 11)]) rfl nd rfl rfl (sw_true rfl rfl rfl (by decide +kernel)) (pi_range1 rfl B.range (pa_cons (pe_callB lenLq (by rfl) B.len (by decide +kernel) (pa_cons (pe_ix ixlq (pv 7) pe_int (fun _ _ => rfl)) pa_nil)) pa_nil)) (blkOk_by (own := [("_law_key", 11)]) (N := Nlaw) (sc := defScope slaw) (by decide +kernel)) (fun _ _ _ _ _ => (pg_name (i := 11) nd rfl (Or.inl rfl))) (fun _ _ _ _ _ => (pts_one (pt_cmpR op_eq (C8.pe_c c__law_draw hr (by decide) rfl (pa_cons (pv 2) (pa_cons pe_int pa_nil))) pe_int (by first | exact nomark _ | rfl)))) (fun _ _ _ _ _ => (pv 11)))
    (pss_one (ps_if (pt_not (pt_val (C8.pe_c c__law_right hr (by decide) rfl (pa_cons (pv 2) (pa_cons (pv 7) (pa_cons (pv 9) (pa_cons (pv 10) (pa_cons (pe_ix ixlq (pe_lst (pa_cons (C8.pe_c c__law_draw hr (by decide) rfl (pa_cons (pv 2) (pa_cons pe_int pa_nil))) (pa_cons (pv 5) (pa_cons (pe_op op_pow pe_int pe_int) pa_nil)))) (C8.pe_c c__law_draw hr (by decide) rfl (pa_cons (pv 2) (pa_cons pe_int pa_nil))) (fun _ _ => rfl)) pa_nil)))))))) (pss_one (ps_ret pe_bl)) pss_nil))))))))))
    (pss_cons (ps_asg (pe_tup (pa_cons (pe_lst (pa_cons (pe_lst (pa_cons (pe_tup (pa_cons pe_str (pa_cons pe_str (pa_cons (pe_tup (pa_cons pe_str (pa_cons pe_str pa_nil))) (pa_cons pe_int (pa_cons pe_str pa_nil)))))) (pa_cons (pe_tup (pa_cons pe_str (pa_cons pe_str pa_nil))) pa_nil))) pa_nil)) (pa_cons (pe_lst (pa_cons (pe_tup (pa_cons pe_int (pa_cons pe_int (pa_cons pe_str pa_nil)))) (pa_cons (pe_tup (pa_cons pe_int (pa_cons pe_int (pa_cons pe_str pa_nil)))) pa_nil))) pa_nil))) (pg_tupq (n := 2) rfl (pgs_cons (pg_name (i := 7) nd rfl (Or.inr rfl)) (pgs_cons (pg_name (i := 9) nd rfl (Or.inr rfl)) pgs_nil))))
    (pss_cons (ps_setLc (i := 12) (own := [("_law_half", 10)]) rfl nd rfl rfl (sw_true rfl rfl rfl (by decide +kernel)) (pi_list (pe_lst (pa_cons (pe_lst pa_nil) (pa_cons (pe_lst (pa_cons pe_int pa_nil)) (pa_cons (pe_lst (pa_cons pe_int pa_nil)) pa_nil))))) (blkOk_by (own := [("_law_half", 10)]) (N := Nlaw) (sc := defScope slaw) (by decide +kernel)) (fun _ _ _ _ _ => (pg_name (i := 10) nd rfl (Or.inl rfl))) (fun _ _ _ _ _ => pts_nil) (fun _ _ _ _ _ => (C8.pe_c c_safe_late hr (by decide) rfl (pa_cons (pv 7) (pa_cons (pv 9) (pa_cons (pv 10) (pa_cons pe_int pa_nil)))))))
    (pss_cons (ps_if (pt_cmpR (op_neQ hr.units) (pv 12) (pe_lst (pa_cons pe_int (pa_cons pe_int (pa_cons pe_int pa_nil)))) (by first | exact nomark _ | rfl)) (pss_one (ps_ret pe_bl)) pss_nil)
    (pss_cons (ps_set (i := 13) nd rfl (Or.inl rfl) (pe_lst (pa_cons (pe_ix ixlq (pv 9) pe_int (fun _ _ => rfl)) (pa_cons (pe_ix ixlq (pv 9) pe_int (fun _ _ => rfl)) (pa_cons (pe_tup (pa_cons pe_int (pa_cons pe_int (pa_cons pe_str pa_nil)))) (pa_cons (pe_tup (pa_cons pe_int (pa_cons pe_int (pa_cons pe_str pa_nil)))) (pa_cons (pe_tup (pa_cons pe_int (pa_cons pe_int (pa_cons pe_str pa_nil)))) (pa_cons (pe_tup (pa_cons pe_int (pa_cons pe_int (pa_cons pe_str pa_nil)))) pa_nil))))))))
    (pss_cons (ps_if (pt_cmpR op_ne (C8.pe_c c_safe_late hr (by decide) rfl (pa_cons (pv 7) (pa_cons (pv 13) (pa_cons (pe_lst (pa_cons pe_int pa_nil)) (pa_cons pe_int pa_nil))))) pe_int (by first | exact nomark _ | rfl)) (pss_one (ps_ret pe_bl)) pss_nil)
    (pss_cons (ps_set (i := 9) nd rfl (Or.inr rfl) (pe_lst (pa_cons (pe_tup (pa_cons pe_int (pa_cons pe_int (pa_cons pe_str pa_nil)))) (pa_cons (pe_tup (pa_cons pe_int (pa_cons pe_int (pa_cons pe_str pa_nil)))) (pa_cons (pe_tup (pa_cons pe_int (pa_cons pe_int (pa_cons pe_str pa_nil)))) pa_nil)))))
    (pss_one (ps_ret (pe_cmpR (op_eqQ hr.units) (pe_lc (own := [("_law_half", 10)]) rfl nd (pi_list (pe_lst (pa_cons (pe_lst (pa_cons pe_int pa_nil)) (pa_cons (pe_lst (pa_cons pe_int pa_nil)) (pa_cons (pe_lst (pa_cons pe_int (pa_cons pe_int pa_nil))) pa_nil))))) (blkOk_by (own := [("_law_half", 10)]) (N := Nlaw) (sc := defScope slaw) (by decide +kernel)) (fun _ _ _ _ _ => (pg_name (i := 10) nd rfl (Or.inl rfl))) (fun _ _ _ _ _ => pts_nil) (fun _ _ _ _ _ => (C8.pe_c c_safe_late hr (by decide) rfl (pa_cons (pv 7) (pa_cons (pv 9) (pa_cons (pv 10) (pa_cons pe_int pa_nil))))))) (pe_lst (pa_cons pe_int (pa_cons pe_int (pa_cons pe_int pa_nil)))) (by first | exact nomark _ | rfl))))))))))), ?_⟩
    refine ⟨_, rfl, a, _, rfl, .inl hS, _, _, rfl, _, _, rfl, ?_⟩
    have hrd : ∃ n : Nat, n = max 1 (min 2 ns.length) ∧ (if (if ((ns.map V.int).length : Int) < 2 then ((ns.map V.int).length : Int) else 2) > 1 then (if ((ns.map V.int).length : Int) < 2 then ((ns.map V.int).length : Int) else 2) else 1) = (n : Int) := by
      refine ⟨_, rfl, ?_⟩
      rw [List.length_map]
      split <;> split at * <;> omega
    obtain ⟨n, en, e1⟩ := hrd
    rw [← en] at hgd
    have hn2 : n ≤ 2 := by omega
    refine ⟨_, rfl, ?_⟩
    show -2 ^ 62 ≤ (if (if ((ns.map V.int).length : Int) < 2 then ((ns.map V.int).length : Int) else 2) > 1 then (if ((ns.map V.int).length : Int) < 2 then ((ns.map V.int).length : Int) else 2) else 1) ∧ _
    rw [e1]
    refine ⟨by omega, by omega, ?_⟩
    rw [show ((n : Int)).toNat = n from rfl]
    refine for_it (walk_range (lo := 0) (n := n)) (fun i σ H' => ∃ v1 v2 v3 v4 v5 v6 v7 v8 v9 v10, σ = [some (.ref a), v1, v2, v3, v4, v5, v6, v7, v8, v9, v10, none, none, none] ∧ Same H H') ⟨none, none, none, none, none, none, none, none, none, none, rfl, Same.refl _⟩ (fun _ _ _ _ _ => trivial) (fun at_ y σ H1 H2 hat h yy => ?_) fun σ H1 h => ?_
    · obtain ⟨v1, v2, v3, v4, v5, v6, v7, v8, v9, v10, rfl, s1⟩ := h
      obtain ⟨rfl, hy⟩ := yy
      obtain rfl : y = V.int (at_ : Nat) := hy.trans (congrArg V.int (by omega))
      have hS1 : SqL K H2 a (ns.map V.int) := sqL_mono s1 hS
      refine ⟨_, rfl, _, rfl, a, ns, at_, rfl, hS1, by omega, h63, fun l hl => ?_⟩
      have s2 : Same H2 (upd H2 l (poV (mPool ns at_))) := same_new hl
      have hS2 := sqL_mono s2 hS1
      have hd0 : Dr l H2 (upd H2 l (poV (mPool ns at_))) H2 (upd H2 l (poV (mPool ns at_))) (mPool ns at_) := Dr.start s2 upd_same hl
      generalize upd H2 l (poV (mPool ns at_)) = H3 at s2 hS2 hd0 ⊢
      refine ⟨_, rfl, Nat.zero_le _, fun z0 hz0 => ?_⟩
      have s3 : Same H3 (upd H3 z0 (.lst [])) := same_new hz0
      have hz00 : (upd H3 z0 (.lst [])) z0 = some (.lst []) := upd_same
      have hd1 := hd0.same s3
      have hS3 := sqL_mono s3 hS2
      generalize upd H3 z0 (.lst []) = H4 at s3 hz00 hd1 hS3 ⊢
      refine ⟨_, _, .lst hS3 (dpAll_ints ns), .lst (sqL hz00) .nil, (fine_ints1 ns).shaped (by decide), (fine_ints1 []).shaped (by decide), ?_⟩
      rw [eqv_nil]
      refine ⟨_, rfl, ?_⟩
      refine ifC ?_
      have esz : (if decide (ns = []) = true then V.int 8 else V.int 4) = V.int (caseAt ns 0).2.2.2 := by
        show _ = V.int (if ns = [] then 8 else 4)
        by_cases h : ns = [] <;> simp [h]
      rw [esz]
      refine ⟨by show 4 ≤ sizeLine; decide, fun z1 hz1 => ?_⟩
      have hd2 := hd1.same (same_new (o := .tup [.int 4, .int 3, .int 9, .int (caseAt ns 0).2.2.2]) hz1)
      have hz11 : (upd H4 z1 (.tup [.int 4, .int 3, .int 9, .int (caseAt ns 0).2.2.2])) z1 = some (.tup [.int 4, .int 3, .int 9, .int (caseAt ns 0).2.2.2]) := upd_same
      generalize upd H4 z1 (.tup [.int 4, .int 3, .int 9, .int (caseAt ns 0).2.2.2]) = H5 at hd2 hz11 ⊢
      refine ⟨_, _, rfl, rfl, ⟨by decide, by decide, by decide⟩, by show 4 ≤ sizeLine; decide, fun z2 hz2 => ?_⟩
      generalize eH : upd H5 z2 (.tup [.int 16, .int 6, (fun i j : Int => V.int (i ^ j.toNat)) 10 6, .int 4]) = H6
      have e10 : (fun i j : Int => V.int (i ^ j.toNat)) 10 6 = V.int 1000000 := by decide +kernel
      rw [e10] at eH
      have s5 : Same H5 H6 := by rw [← eH]; exact same_new hz2
      have hd3 := hd2.same s5
      have hz11b := s5 _ _ hz11
      have hz22 : H6 z2 = some (.tup [.int 16, .int 6, .int 1000000, .int 4]) := by rw [← eH]; exact upd_same
      clear eH s5
      refine ⟨by show 4 ≤ sizeLine; decide, fun z3 hz3 => ?_⟩
      have s6 := same_new (o := .tup [.int 3, .int 2, .int 4, .int 3]) hz3
      have hd4 := hd3.same s6
      have hz11c := s6 _ _ hz11b
      have hz22c := s6 _ _ hz22
      have hz33 : (upd H6 z3 (.tup [.int 3, .int 2, .int 4, .int 3])) z3 = some (.tup [.int 3, .int 2, .int 4, .int 3]) := upd_same
      generalize upd H6 z3 (.tup [.int 3, .int 2, .int 4, .int 3]) = H7 at s6 hd4 hz11c hz22c hz33 ⊢
      refine ⟨by show 3 ≤ sizeLine; decide, fun z4 hz4 => ?_⟩
      have s7 := same_new (o := .lst [.ref z1, .ref z2, .ref z3]) hz4
      have hd5 := hd4.same s7
      have hz1d := s7 _ _ hz11c
      have hz2d := s7 _ _ hz22c
      have hz3d := s7 _ _ hz33
      have hz4d : (upd H7 z4 (.lst [.ref z1, .ref z2, .ref z3])) z4 = some (.lst [.ref z1, .ref z2, .ref z3]) := upd_same
      generalize upd H7 z4 (.lst [.ref z1, .ref z2, .ref z3]) = H8 at hd5 hz1d hz2d hz3d hz4d ⊢
      clear s6 s7 hz11c hz22c hz33 hd4 hz11b hz22 hd3 hz11 hd2 hd1 hz00 hd0 s3 s2 hS3 hS2 hS1 esz
      refine ⟨z4, rfl, ⟨_, sqL hz4d⟩, ?_⟩
      refine for_it (walkL (K := K) (a := z4) (xs := [.ref z1, .ref z2, .ref z3])) (fun i σ H' => ∃ v3 v4 v5 v6 v7 v8 v9 v10 Gi, σ = [some (.ref a), some (.int (at_ : Nat)), some (.ref l), v3, v4, v5, v6, v7, v8, v9, v10, none, none, none] ∧ Dr l H2 H8 Gi H' (poAt ns at_ i) ∧ Le (mPool ns at_) (poAt ns at_ i) (2000 * i)) ?_ (fun i σ H' _ h => ?_) (fun i y σ H9 H10 hi h yy => ?_) fun σ H9 h => ?_
      · exact ⟨v3, v4, v5, v6, v7, v8, v9, v10, H2, rfl, Dr.start hd5.sub hd5.ha hd5.ga, Le.refl _⟩
      · obtain ⟨_, _, _, _, _, _, _, _, Gi, _, d, _⟩ := h
        exact d.g.keep _ _ (fun e => by rw [e, hd5.ha] at hz4d; cases hz4d) hz4d
      · obtain ⟨v3, v4, v5, v6, v7, v8, v9, v10, Gi, rfl, d, hle⟩ := h
        obtain ⟨rfl, hy⟩ := yy
        have hz : ∃ z wide tall top size, y = V.ref z ∧ H10 z = some (.tup [.int wide, .int tall, .int top, .int size]) ∧ caseAt ns i = (wide, tall, top, size) ∧ (1 ≤ wide ∧ wide ≤ 16) ∧ (1 ≤ tall ∧ tall ≤ 6) ∧ (1 ≤ top ∧ top ≤ 1000000) ∧ (1 ≤ size ∧ size ≤ 8) := by
          have hi3 : i = 0 ∨ i = 1 ∨ i = 2 := by simp at hi; omega
          rcases hi3 with rfl | rfl | rfl
          · refine ⟨z1, 4, 3, 9, (caseAt ns 0).2.2.2, (Option.some.inj hy).symm, d.g.keep _ _ (fun e => by rw [e, hd5.ha] at hz1d; cases hz1d) hz1d, rfl, by decide, by decide, by decide, ?_⟩
            show 1 ≤ (if ns = [] then (8 : Int) else 4) ∧ (if ns = [] then (8 : Int) else 4) ≤ 8
            split <;> decide
          · exact ⟨z2, 16, 6, 1000000, 4, (Option.some.inj hy).symm, d.g.keep _ _ (fun e => by rw [e, hd5.ha] at hz2d; cases hz2d) hz2d, rfl, by decide, by decide, by decide, by decide⟩
          · exact ⟨z3, 3, 2, 4, 3, (Option.some.inj hy).symm, d.g.keep _ _ (fun e => by rw [e, hd5.ha] at hz3d; cases hz3d) hz3d, rfl, by decide, by decide, by decide, by decide⟩
        obtain ⟨z, wide, tall, top, size, rfl, hzt, ecs, hw, ht, hp, hs⟩ := hz
        have hgi := hgd at_ i hat (by simpa using hi)
        have epo : (poAt ns at_ (i + 1)) = (theCase ns at_ i).po := rfl
        have etc : theCase ns at_ i = mCase (poAt ns at_ i) wide tall top size := by unfold theCase; rw [ecs]
        rw [epo, etc]
        rw [etc] at hgi
        have ok0 : PoOk (mPool ns at_) := pool_ok ns at_
        have hc0 : (mPool ns at_).c = 0 := rfl
        have hi3 : i < 3 := by simpa using hi
        have op := hle.ok ok0 (by rw [hc0]; omega)
        have hcp := hle.c1
        rw [hc0] at hcp
        generalize poAt ns at_ i = p at d hle op hcp hgi ⊢
        refine ⟨z, _, rfl, hzt, rfl, _, _, rfl, _, _, rfl, _, _, rfl, _, _, rfl, rfl, ?_⟩
        -- the layout
        refine ⟨_, rfl, _, rfl, _, rfl, _, rfl, by show 3 ≤ sizeLine; decide, fun z5 hz5 => ?_⟩
        have d1 := d.same (same_new (o := .lst [.int 3, .int 5, .int 8]) hz5)
        have hz55 : (upd H10 z5 (.lst [.int 3, .int 5, .int 8])) z5 = some (.lst [.int 3, .int 5, .int 8]) := upd_same
        generalize upd H10 z5 (.lst [.int 3, .int 5, .int 8]) = H11 at d1 hz55 ⊢
        have l1 := draw_le p (m := 3) (by decide)
        have i1 := draw_in p (m := 3) (by decide)
        have nz5 : z5 ≠ l := fun e => by rw [e, d.ha] at hz5; cases hz5
        refine ⟨_, rfl, l, p, 3, rfl, d1.ha, op, by decide, by decide, ?_⟩
        have d2 := d1.draw (q := (mDraw p 3).2)
        have o2 := l1.ok op (by omega)
        have c2 := l1.c1
        have hz56 : (upd H11 l (poV (mDraw p 3).2)) z5 = some (.lst [.int 3, .int 5, .int 8]) := by rw [upd_ne nz5]; exact hz55
        generalize upd H11 l (poV (mDraw p 3).2) = H12 at d2 hz56 ⊢
        unfold mCase at hgi ⊢
        generalize mDraw p 3 = x1 at d2 l1 i1 o2 c2 hgi ⊢
        refine ⟨z5, _, _, _, rfl, rfl, hz56, at3 i1.1 i1.2, ?_⟩
        have eoft : (if x1.1 = 0 then V.int 3 else if x1.1 = 1 then V.int 5 else V.int 8) = V.int (mOften x1.1) := by
          unfold mOften
          split
          · rfl
          · split <;> rfl
        rw [eoft]
        obtain ⟨hL, ly⟩ := layout_facts (p := x1.2) (often := mOften x1.1) hw ht hp.1 hp.2
        refine ⟨Gi, l, x1.2, wide, tall, top, mOften x1.1, rfl, d2.sub, d2.ha, d2.ga, o2, by omega, hw, ht, hp.1, hp.2, fun v G13 H13 d13 dv => ?_⟩
        have d3 := d2.then d13
        have o3 := ly.ok o2 (by omega)
        have c3 := ly.c1
        dsimp only at hgi ⊢
        generalize mLayout x1.2 wide tall top (mOften x1.1) = y1 at hL ly d3 dv o3 c3 hgi ⊢
        clear hz55 hz56 d13 d2 d1
        -- how many events
        have l4 := draw_le y1.2 (m := size + 1) (by omega)
        have i4 := draw_in y1.2 (m := size + 1) (by omega)
        refine ⟨_, rfl, _, rfl, _, rfl, _, _, rfl, rfl, l, y1.2, size + 1, rfl, d3.ha, o3, by omega, by omega, by show 2 ≤ sizeLine; decide, fun z6 hz6 => ?_⟩
        have d4 := d3.draw (q := (mDraw y1.2 (size + 1)).2)
        have o4 := l4.ok o3 (by omega)
        have c4 := l4.c1
        generalize upd H13 l (poV (mDraw y1.2 (size + 1)).2) = H14 at d4 hz6 ⊢
        generalize mDraw y1.2 (size + 1) = x2 at d4 l4 i4 o4 c4 hz6 hgi ⊢
        have nz6 : z6 ≠ l := fun e => by rw [e, d4.ha] at hz6; cases hz6
        have d5 := d4.same (same_new (o := .lst [.int size, .int x2.1]) hz6)
        have hz66 : (upd H14 z6 (.lst [.int size, .int x2.1])) z6 = some (.lst [.int size, .int x2.1]) := upd_same
        generalize upd H14 z6 (.lst [.int size, .int x2.1]) = H15 at d5 hz66 ⊢
        refine ⟨_, rfl, _, _, rfl, rfl, .inr ⟨_, rfl, ?_⟩⟩
        have l6 := draw_le x2.2 (m := 2) (by omega)
        have i6 := draw_in x2.2 (m := 2) (by omega)
        refine ⟨_, rfl, l, x2.2, 2, rfl, d5.ha, o4, by omega, by omega, ?_⟩
        have d6 := d5.draw (q := (mDraw x2.2 2).2)
        have o6 := l6.ok o4 (by omega)
        have c6 := l6.c1
        have hz67 : (upd H15 l (poV (mDraw x2.2 2).2)) z6 = some (.lst [.int size, .int x2.1]) := by rw [upd_ne nz6]; exact hz66
        generalize upd H15 l (poV (mDraw x2.2 2).2) = H16 at d6 hz67 ⊢
        generalize mDraw x2.2 2 = x3 at d6 l6 i6 o6 c6 hgi ⊢
        obtain ⟨cm, b0, b2, ev⟩ := many_at (size := size) (a := x2.1) (b := x3.1) i6.1 i6.2
        refine ⟨_, _, rfl, rfl, cm, z6, _, _, _, rfl, rfl, hz67, at2 b0 b2, ?_⟩
        rw [ev]
        clear hz66 hz67 d3 d4 d5 b0 b2 ev cm
        -- the order
        have hmy := many_in (b := x3.1) hs i4
        obtain ⟨qL, x0, xs0, rL, ys0, rfl, hqL, rfl, hrL, hys⟩ := lay_row0 dv hL
        have hwd := hL.w1
        have hwd16 := hL.w16
        have emw : (y1.1.headD []).length = mWide y1.1 := rfl
        rw [emw] at hwd hwd16
        refine ⟨_, rfl, _, rfl, _, rfl, qL, _, _, _, rfl, rfl, d6.sub _ _ hqL, atI_nat (j := 0) rfl, rL, ys0, rfl, d6.sub _ _ hrL, _, _, rfl, _, rfl, ?_⟩
        have hOk := ord_ok (many := min 4 (mWide y1.1 : Int)) (by omega) x3.2 (mMany size x2.1 x3.1).toNat
        refine ⟨G13, l, x3.2, min 4 (mWide y1.1 : Int), (mMany size x2.1 x3.1).toNat, ?_, d6.sub, d6.ha, d6.ga, o6, by omega, by omega, by omega, by omega, fun v17 G17 H17 d17 dv17 => ?_⟩
        · rw [Int.toNat_of_nonneg hmy.1, ← hys, ← min4]
          rfl
        have d7 := d6.then d17
        have l7 := hOk.le
        have o7 := l7.ok o6 (by omega)
        have c7 := l7.c1
        generalize eord : mOrd (min 4 (mWide y1.1 : Int)) x3.2 (mMany size x2.1 x3.1).toNat = od at hOk d7 d17 dv17 l7 o7 c7 hgi ⊢
        refine ⟨_, rfl, by show 2 ≤ sizeLine; decide, fun z7 hz7 => ?_⟩
        have nz7 : z7 ≠ l := fun e => by rw [e, d7.ha] at hz7; cases hz7
        have d8 := d7.same (same_new (o := .lst [.int 5, .int top]) hz7)
        have hz77 : (upd H17 z7 (.lst [.int 5, .int top])) z7 = some (.lst [.int 5, .int top]) := upd_same
        generalize upd H17 z7 (.lst [.int 5, .int top]) = H18 at d8 hz77 ⊢
        have l9 := draw_le od.po (m := 2) (by omega)
        have i9 := draw_in od.po (m := 2) (by omega)
        refine ⟨_, rfl, l, od.po, 2, rfl, d8.ha, o7, by omega, by omega, ?_⟩
        have d9 := d8.draw (q := (mDraw od.po 2).2)
        have o9 := l9.ok o7 (by omega)
        have c9 := l9.c1
        have hz78 : (upd H18 l (poV (mDraw od.po 2).2)) z7 = some (.lst [.int 5, .int top]) := by rw [upd_ne nz7]; exact hz77
        generalize upd H18 l (poV (mDraw od.po 2).2) = H19 at d9 hz78 ⊢
        generalize mDraw od.po 2 = x4 at d9 l9 i9 o9 c9 hgi ⊢
        refine ⟨z7, _, _, _, rfl, rfl, hz78, at2 i9.1 i9.2, ?_⟩
        have ewt : (if x4.1 = 0 then V.int 5 else V.int top) = V.int (if x4.1 = 0 then 5 else top) := by split <;> rfl
        rw [ewt]
        have hwt : 0 < (if x4.1 = 0 then 5 else top) ∧ (if x4.1 = 0 then 5 else top) ≤ 1000000 := by split <;> omega
        have hTm := timed_ok (wide := if x4.1 = 0 then 5 else top) hwt.1 x4.2 od.fs
        have hod8 : od.fs.length ≤ 8 := by rw [hOk.len]; omega
        refine ⟨G17, l, x4.2, v17, od.fs, _, rfl, d9.sub, d9.ha, d9.ga, o9, by omega, dv17, hod8, hwt.1, hwt.2, fun v20 G20 H20 d20 dv20 => ?_⟩
        have d10 := d9.then d20
        have l10 := hTm.le
        have o10 := l10.ok o9 (by omega)
        have c10 := l10.c1
        generalize etm : mTimed x4.2 od.fs (if x4.1 = 0 then 5 else top) = tm at hTm d10 d20 dv20 l10 o10 c10 hgi ⊢
        clear hz77 hz78 d7 d8 d9
        -- the half
        have sx := d17.g.ext.trans d20.g.ext
        have hq20 := sx _ _ hqL
        have hr20 := sx _ _ hrL
        have ehl : (ys0.length : Int) = (mWide y1.1 : Int) := by rw [hys]
        refine ⟨_, rfl, qL, _, _, _, rfl, rfl, d10.sub _ _ hq20, atI_nat (j := 0) rfl, rL, ys0, rfl, d10.sub _ _ hr20, ?_⟩
        rw [ehl]
        refine ⟨_, rfl, by omega, by omega, fun D hD => ?_⟩
        rw [show ((mWide y1.1 : Int)).toNat = mWide y1.1 from rfl]
        refine lcP (a := l) (G1 := G20) (fun i => (halfGo tm.po i).2) (fun i => (halfGo tm.po i).1.map PyData.int) (walk_range (lo := 0) (n := mWide y1.1)) (by omega) rfl (fun i => by rw [List.length_map]; exact (half_facts tm.po i).2.2.1) d10.sub d10.ha d10.ga hD (fun i x Gi2 Hi H' Ok No hi2 di yy okk no => ?_) fun G21 H21 d21 dq => ?_
        · obtain ⟨rfl, hx⟩ := yy
          obtain rfl : x = V.int (i : Nat) := hx.trans (congrArg V.int (by omega))
          have lh := (half_facts tm.po i).2.2.2
          have lc := lh.c1
          have oi := lh.ok o10 (by omega)
          refine ⟨rfl, _, rfl, l, _, 2, rfl, di.ha, oi, by omega, by omega, ?_⟩
          have dd : Dr l Gi2 H' Gi2 (upd H' l (poV (mDraw (halfGo tm.po i).2 2).2)) (mDraw (halfGo tm.po i).2 2).2 := (Dr.start di.sub di.ha di.ga).draw
          have edec : decide (V.int (mDraw (halfGo tm.po i).2 2).1 = V.int 0) = decide ((mDraw (halfGo tm.po i).2 2).1 = 0) := decide_eq_decide.mpr ⟨V.int.inj, congrArg V.int⟩
          refine ⟨rfl, _, rfl, ?_⟩
          rw [edec]
          refine iteB (fun h => ⟨_, rfl, okk _ Gi2 _ _ dd (.int _) ?_⟩) fun h => no Gi2 _ dd ?_
          · show List.map PyData.int (if _ then _ else _) = _
            rw [if_pos (of_decide_eq_true h), List.map_append]
            rfl
          · show List.map PyData.int (if _ then _ else _) = _
            rw [if_neg (of_decide_eq_false h)]
        have d11 := d10.then d21
        obtain ⟨hk1, hk2, hk3, l11⟩ := half_facts tm.po (mWide y1.1)
        have o11 := l11.ok o10 (by omega)
        have c11 := l11.c1
        generalize halfGo tm.po (mWide y1.1) = hf at hk1 hk2 hk3 l11 o11 c11 d21 d11 dq hgi ⊢
        have l12 := draw_le hf.2 (m := 4) (by omega)
        have i12 := draw_in hf.2 (m := 4) (by omega)
        refine ⟨_, rfl, _, rfl, _, rfl, _, rfl, _, rfl, l, hf.2, 4, rfl, d11.ha, o11, by omega, by omega, ?_⟩
        have d12 := d11.draw (q := (mDraw hf.2 4).2)
        have o12 := l12.ok o11 (by omega)
        have c12 := l12.c1
        generalize upd H21 l (poV (mDraw hf.2 4).2) = H22 at d12 ⊢
        generalize mDraw hf.2 4 = x5 at d12 l12 i12 o12 c12 hgi ⊢
        refine ⟨_, rfl, _, _, rfl, rfl, ⟨by decide, by decide, by decide⟩, by show 3 ≤ sizeLine; decide, fun z8 hz8 => ?_⟩
        have nz8 : z8 ≠ l := fun e => by rw [e, d12.ha] at hz8; cases hz8
        generalize eH : upd H22 z8 (.lst [.int x5.1, .int top, (fun i j : Int => V.int (i ^ j.toNat)) 10 9]) = H23
        have e10 : (fun i j : Int => V.int (i ^ j.toNat)) 10 9 = V.int 1000000000 := by decide +kernel
        rw [e10] at eH
        have s23 : Same H22 H23 := by rw [← eH]; exact same_new hz8
        have d13 := d12.same s23
        have hz88 : H23 z8 = some (.lst [.int x5.1, .int top, .int 1000000000]) := by rw [← eH]; exact upd_same
        clear eH s23
        have l14 := draw_le x5.2 (m := 3) (by omega)
        have i14 := draw_in x5.2 (m := 3) (by omega)
        refine ⟨_, rfl, l, x5.2, 3, rfl, d13.ha, o12, by omega, by omega, ?_⟩
        have d14 := d13.draw (q := (mDraw x5.2 3).2)
        have o14 := l14.ok o12 (by omega)
        have c14 := l14.c1
        have hz89 : (upd H23 l (poV (mDraw x5.2 3).2)) z8 = some (.lst [.int x5.1, .int top, .int 1000000000]) := by rw [upd_ne nz8]; exact hz88
        generalize upd H23 l (poV (mDraw x5.2 3).2) = H24 at d14 hz89 ⊢
        generalize mDraw x5.2 3 = x6 at d14 l14 i14 o14 c14 hgi ⊢
        refine ⟨z8, _, _, _, rfl, rfl, hz89, at3 i14.1 i14.2, ?_⟩
        have efar : (if x6.1 = 0 then V.int x5.1 else if x6.1 = 1 then V.int top else V.int 1000000000) = V.int (if x6.1 = 0 then x5.1 else if x6.1 = 1 then top else 1000000000) := by
          split
          · rfl
          · split <;> rfl
        rw [efar]
        have hfar : 0 ≤ (if x6.1 = 0 then x5.1 else if x6.1 = 1 then top else 1000000000) ∧ (if x6.1 = 0 then x5.1 else if x6.1 = 1 then top else 1000000000) ≤ 1000000000 := by
          split
          · omega
          · split <;> omega
        have hes : tm.es.length = od.fs.length := by rw [← hTm.stp, List.length_map]
        have hRok : RecOk (mWide y1.1) tm.es := by
          refine ⟨by omega, hTm.asc, fun e he => ?_, by rw [hTm.stp]; exact hOk.alt⟩
          have hm : e.stp ∈ od.fs := by rw [← hTm.stp]; exact List.mem_map.mpr ⟨e, he, rfl⟩
          have := hOk.keys _ hm
          have ek : e.stp.1 = e.key := rfl
          omega
        have sH := d21.g.ext.trans d14.sub
        have aok : ArgsOk H24 (.ref qL) v20 (.ref D) y1.1 tm.es hf.1 (if x6.1 = 0 then x5.1 else if x6.1 = 1 then top else 1000000000) :=
          ⟨dv.of (sx.trans sH), hL, dv20.of sH, hRok, by omega, dq.of d14.sub, ⟨hk1, hk2⟩, by omega, hfar.1, hfar.2⟩
        refine ⟨.ref l, .ref qL, v20, .ref D, y1.1, tm.es, hf.1, _, rfl, aok, hgi, fun H25 s25 => ?_⟩
        have d15 := d14.same s25
        refine ⟨_, rfl, ?_⟩
        refine ⟨some (.int wide), some (.int tall), some (.int top), some (.int size), _, _, _, _, G21, rfl, d15, ?_⟩
        have hLe := ((((((((hle.trans l1).trans ly).trans l4).trans l6).trans l7).trans l9).trans l10).trans l11)
        exact ((hLe.trans l12).trans l14).mono (by omega)
      · obtain ⟨_, _, _, _, _, _, _, _, Gi, rfl, d, _⟩ := h
        exact ⟨_, _, _, _, _, _, _, _, _, _, rfl, (s1.trans d.g.ext).trans d.sub⟩
    · obtain ⟨v1, v2, v3, v4, v5, v6, v7, v8, v9, v10, rfl, s1'⟩ := h
      clear hgd e1 en
      -- the written layout
      refine ⟨by show 2 ≤ sizeLine; decide, fun z1 hz1 => ?_⟩
      have s1 : Same H1 (upd H1 z1 (.tup [.str (PySem.Str.ofString "code"), .str (PySem.Str.ofString "b")])) := same_new hz1
      have q1 : (upd H1 z1 (.tup [.str (PySem.Str.ofString "code"), .str (PySem.Str.ofString "b")])) z1 = some (.tup [.str (PySem.Str.ofString "code"), .str (PySem.Str.ofString "b")]) := upd_same
      generalize upd H1 z1 (.tup [.str (PySem.Str.ofString "code"), .str (PySem.Str.ofString "b")]) = K1 at s1 q1 ⊢
      refine ⟨by show 5 ≤ sizeLine; decide, fun z2 hz2 => ?_⟩
      have s2 : Same K1 (upd K1 z2 (.tup [.str (PySem.Str.ofString "dual"), .str (PySem.Str.ofString "a"), .ref z1, .int 9, .str (PySem.Str.ofString "time")])) := same_new hz2
      have q2 : (upd K1 z2 (.tup [.str (PySem.Str.ofString "dual"), .str (PySem.Str.ofString "a"), .ref z1, .int 9, .str (PySem.Str.ofString "time")])) z2 = some (.tup [.str (PySem.Str.ofString "dual"), .str (PySem.Str.ofString "a"), .ref z1, .int 9, .str (PySem.Str.ofString "time")]) := upd_same
      generalize upd K1 z2 (.tup [.str (PySem.Str.ofString "dual"), .str (PySem.Str.ofString "a"), .ref z1, .int 9, .str (PySem.Str.ofString "time")]) = K2 at s2 q2 ⊢
      refine ⟨by show 2 ≤ sizeLine; decide, fun z3 hz3 => ?_⟩
      have s3 : Same K2 (upd K2 z3 (.tup [.str (PySem.Str.ofString "code"), .str (PySem.Str.ofString "x")])) := same_new hz3
      have q3 : (upd K2 z3 (.tup [.str (PySem.Str.ofString "code"), .str (PySem.Str.ofString "x")])) z3 = some (.tup [.str (PySem.Str.ofString "code"), .str (PySem.Str.ofString "x")]) := upd_same
      generalize upd K2 z3 (.tup [.str (PySem.Str.ofString "code"), .str (PySem.Str.ofString "x")]) = K3 at s3 q3 ⊢
      refine ⟨by show 2 ≤ sizeLine; decide, fun z4 hz4 => ?_⟩
      have s4 : Same K3 (upd K3 z4 (.lst [.ref z2, .ref z3])) := same_new hz4
      have q4 : (upd K3 z4 (.lst [.ref z2, .ref z3])) z4 = some (.lst [.ref z2, .ref z3]) := upd_same
      generalize upd K3 z4 (.lst [.ref z2, .ref z3]) = K4 at s4 q4 ⊢
      refine ⟨by show 1 ≤ sizeLine; decide, fun z5 hz5 => ?_⟩
      have s5 : Same K4 (upd K4 z5 (.lst [.ref z4])) := same_new hz5
      have q5 : (upd K4 z5 (.lst [.ref z4])) z5 = some (.lst [.ref z4]) := upd_same
      generalize upd K4 z5 (.lst [.ref z4]) = K5 at s5 q5 ⊢
      refine ⟨by show 3 ≤ sizeLine; decide, fun z6 hz6 => ?_⟩
      have s6 : Same K5 (upd K5 z6 (.tup [.int 0, .int 0, .str (PySem.Str.ofString "down")])) := same_new hz6
      have q6 : (upd K5 z6 (.tup [.int 0, .int 0, .str (PySem.Str.ofString "down")])) z6 = some (.tup [.int 0, .int 0, .str (PySem.Str.ofString "down")]) := upd_same
      generalize upd K5 z6 (.tup [.int 0, .int 0, .str (PySem.Str.ofString "down")]) = K6 at s6 q6 ⊢
      refine ⟨by show 3 ≤ sizeLine; decide, fun z7 hz7 => ?_⟩
      have s7 : Same K6 (upd K6 z7 (.tup [.int 4, .int 0, .str (PySem.Str.ofString "up")])) := same_new hz7
      have q7 : (upd K6 z7 (.tup [.int 4, .int 0, .str (PySem.Str.ofString "up")])) z7 = some (.tup [.int 4, .int 0, .str (PySem.Str.ofString "up")]) := upd_same
      generalize upd K6 z7 (.tup [.int 4, .int 0, .str (PySem.Str.ofString "up")]) = K7 at s7 q7 ⊢
      refine ⟨by show 2 ≤ sizeLine; decide, fun z8 hz8 => ?_⟩
      have s8 : Same K7 (upd K7 z8 (.lst [.ref z6, .ref z7])) := same_new hz8
      have q8 : (upd K7 z8 (.lst [.ref z6, .ref z7])) z8 = some (.lst [.ref z6, .ref z7]) := upd_same
      generalize upd K7 z8 (.lst [.ref z6, .ref z7]) = K8 at s8 q8 ⊢
      refine ⟨by show 2 ≤ sizeLine; decide, fun z9 hz9 => ?_⟩
      have s9 : Same K8 (upd K8 z9 (.tup [.ref z5, .ref z8])) := same_new hz9
      have q9 : (upd K8 z9 (.tup [.ref z5, .ref z8])) z9 = some (.tup [.ref z5, .ref z8]) := upd_same
      generalize upd K8 z9 (.tup [.ref z5, .ref z8]) = K9 at s9 q9 ⊢
      have dL : Dq K5 (.ref z5) (layD xL) := by
        have e1 : Dq K5 (.ref z1) (Wt.d (.code "b")) := tp (s5 _ _ (s4 _ _ (s3 _ _ (s2 _ _ q1)))) (.cons (.str _) (.cons (.str _) .nil))
        have e2 : Dq K5 (.ref z2) (Ac.d (.dual "a" (.code "b") 9 "time")) := tp (s5 _ _ (s4 _ _ (s3 _ _ q2))) (.cons (.str _) (.cons (.str _) (.cons e1 (.cons (.int _) (.cons (.str _) .nil)))))
        have e3 : Dq K5 (.ref z3) (Ac.d (.w (.code "x"))) := tp (s5 _ _ (s4 _ _ q3)) (.cons (.str _) (.cons (.str _) .nil))
        exact ls q5 (.one (ls (s5 _ _ q4) (.cons e2 (.cons e3 .nil))))
      have dR0 : Dq K8 (.ref z6) (Ev.d ⟨0, 0, true⟩) := tp (s8 _ _ (s7 _ _ q6)) (.cons (.int _) (.cons (.int _) (.cons (.str _) .nil)))
      have dR1 : Dq K8 (.ref z7) (Ev.d ⟨4, 0, false⟩) := tp (s8 _ _ q7) (.cons (.int _) (.cons (.int _) (.cons (.str _) .nil)))
      have dR : Dq K8 (.ref z8) (recD xR) := ls q8 (.cons dR0 (.cons dR1 .nil))
      have sK9 : Same H K9 := ((((((((s1'.trans s1).trans s2).trans s3).trans s4).trans s5).trans s6).trans s7).trans s8).trans s9
      have dL9 := dL.of (((s6.trans s7).trans s8).trans s9)
      have dR9 := dR.of s9
      have q89 := s9 _ _ q8
      have dR09 := dR0.of s9
      have dR19 := dR1.of s9
      refine ⟨z9, _, rfl, q9, rfl, _, _, rfl, _, _, rfl, rfl, ?_⟩
      clear s1 s2 s3 s4 s5 s6 s7 s8 s9 q1 q2 q3 q4 q5 q6 q7 q8 q9 dL dR dR0 dR1 s1'
      refine ⟨Nat.zero_le _, fun h1 th1 => ?_⟩
      have s1 : Same K9 (upd K9 h1 (.lst [])) := same_new th1
      have q1 : (upd K9 h1 (.lst [])) h1 = some (.lst []) := upd_same
      generalize upd K9 h1 (.lst []) = J1 at s1 q1 ⊢
      refine ⟨by show 1 ≤ sizeLine; decide, fun h2 th2 => ?_⟩
      have s2 : Same J1 (upd J1 h2 (.lst [.int 0])) := same_new th2
      have q2 : (upd J1 h2 (.lst [.int 0])) h2 = some (.lst [.int 0]) := upd_same
      generalize upd J1 h2 (.lst [.int 0]) = J2 at s2 q2 ⊢
      refine ⟨by show 1 ≤ sizeLine; decide, fun h3 th3 => ?_⟩
      have s3 : Same J2 (upd J2 h3 (.lst [.int 1])) := same_new th3
      have q3 : (upd J2 h3 (.lst [.int 1])) h3 = some (.lst [.int 1]) := upd_same
      generalize upd J2 h3 (.lst [.int 1]) = J3 at s3 q3 ⊢
      refine ⟨by show 3 ≤ sizeLine; decide, fun h4 th4 => ?_⟩
      have s4 : Same J3 (upd J3 h4 (.lst [.ref h1, .ref h2, .ref h3])) := same_new th4
      have q4 : (upd J3 h4 (.lst [.ref h1, .ref h2, .ref h3])) h4 = some (.lst [.ref h1, .ref h2, .ref h3]) := upd_same
      generalize upd J3 h4 (.lst [.ref h1, .ref h2, .ref h3]) = J4 at s4 q4 ⊢
      have dh1 : Dq J4 (.ref h1) (intsD []) := ls (s4 _ _ (s3 _ _ (s2 _ _ q1))) .nil
      have dh2 : Dq J4 (.ref h2) (intsD [0]) := ls (s4 _ _ (s3 _ _ q2)) (.cons (.int _) .nil)
      have dh3 : Dq J4 (.ref h3) (intsD [1]) := ls (s4 _ _ q3) (.cons (.int _) .nil)
      have sJ : Same K9 J4 := ((s1.trans s2).trans s3).trans s4
      have dL4 := dL9.of sJ
      have dR4 := dR9.of sJ
      have sH4 := sK9.trans sJ
      have q84 := sJ _ _ q89
      have dR04 := dR09.of sJ
      have dR14 := dR19.of sJ
      clear s1 s2 s3 s4 q1 q2 q3 sJ
      refine ⟨h4, rfl, ⟨_, sqL q4⟩, fun D hD => ?_⟩
      refine lcD (G := J4) (G1 := J4) (fun i => [PyData.int 100, .int 4, .int 100][i]?) (walkL (K := K) (a := h4) (xs := [.ref h1, .ref h2, .ref h3])) (by show 3 ≤ 100000; decide) (Gr.refl (Same.refl J4)) (fun Gi Hi g => g.keep _ _ q4) hD (fun i y Gi Hi H' Ok No hi g yy okk no => ?_) fun G5 J5 g5 g5' dq => ?_
      · obtain ⟨rfl, hy⟩ := yy
        have hh : ∃ (half : List Int) (sv : Int), Dq J4 y (intsD half) ∧ HalfOk xL half ∧ half.length ≤ 1000 ∧ safeIs xL xR half 100 sv = true ∧ [PyData.int 100, .int 4, .int 100][i]? = some (.int sv) := by
          have hi3 : i = 0 ∨ i = 1 ∨ i = 2 := by simp at hi; omega
          rcases hi3 with rfl | rfl | rfl
          · obtain rfl := Option.some.inj hy
            exact ⟨[], 100, dh1, xH0, by decide, x1, rfl⟩
          · obtain rfl := Option.some.inj hy
            exact ⟨[0], 4, dh2, xH1, by decide, x2, rfl⟩
          · obtain rfl := Option.some.inj hy
            exact ⟨[1], 100, dh3, xH2, by decide, x3, rfl⟩
        obtain ⟨half, sv, dh, hho, hhl, hsv, hres⟩ := hh
        refine ⟨rfl, _, rfl, _, rfl, _, rfl, H', .ref z5, .ref z8, y, xL, xR, half, 100, rfl, Same.refl H', ⟨dL4.of g.keep, xLOk, dR4.of g.keep, xROk, by decide, dh.of g.keep, hho, hhl, by decide, by decide⟩, fun H6 sv2 s6 h1 h2 h3 => ?_⟩
        obtain rfl := safeIs_eq hsv ⟨h1, h2, h3⟩
        exact okk _ Gi H6 _ ((Gr.refl g.sub).same s6) (.int _) hres
      · have em : made (fun i => [PyData.int 100, .int 4, .int 100][i]?) [V.ref h1, .ref h2, .ref h3].length = [PyData.int 100, .int 4, .int 100] := rfl
        rw [em] at dq
        have dq5 := dq.of g5.sub
        have sJ5 := g5'.keep
        clear dq g5 g5' hD dh1 dh2 dh3
        refine ⟨_, rfl, by show 3 ≤ sizeLine; decide, fun w1 hw1 => ?_⟩
        have sw : Same J5 (upd J5 w1 (.lst [.int 100, .int 4, .int 100])) := same_new hw1
        have qw : (upd J5 w1 (.lst [.int 100, .int 4, .int 100])) w1 = some (.lst [.int 100, .int 4, .int 100]) := upd_same
        generalize upd J5 w1 (.lst [.int 100, .int 4, .int 100]) = J6 at sw qw ⊢
        refine ⟨1, _, _, dq5.of sw, ls qw (.cons (.int _) (.cons (.int _) (.cons (.int _) .nil))), by decide, fine_ints1 [100, 4, 100], fine_ints1 [100, 4, 100], fun c hc => ⟨c, rfl, ?_⟩⟩
        obtain rfl : c = false := by
          cases c with
          | false => rfl
          | true => exact absurd rfl (hc.mp rfl)
        have sJ6 := sJ5.trans sw
        clear hc qw dq5 sw sJ5
        -- the longer record
        have i0 := atI_nat (xs := [V.ref z6, V.ref z7]) (j := 0) rfl
        have i1 := atI_nat (xs := [V.ref z6, V.ref z7]) (j := 1) rfl
        refine ⟨_, rfl, z8, _, _, _, rfl, rfl, sJ6 _ _ q84, i0, _, rfl, z8, _, _, _, rfl, rfl, sJ6 _ _ q84, i1, by show 3 ≤ sizeLine; decide, fun e1 te1 => ?_⟩
        have s1 : Same J6 (upd J6 e1 (.tup [.int 20, .int 1, .str (PySem.Str.ofString "down")])) := same_new te1
        have q1 : (upd J6 e1 (.tup [.int 20, .int 1, .str (PySem.Str.ofString "down")])) e1 = some (.tup [.int 20, .int 1, .str (PySem.Str.ofString "down")]) := upd_same
        generalize upd J6 e1 (.tup [.int 20, .int 1, .str (PySem.Str.ofString "down")]) = M1 at s1 q1 ⊢
        refine ⟨by show 3 ≤ sizeLine; decide, fun e2 te2 => ?_⟩
        have s2 : Same M1 (upd M1 e2 (.tup [.int 21, .int 1, .str (PySem.Str.ofString "up")])) := same_new te2
        have q2 : (upd M1 e2 (.tup [.int 21, .int 1, .str (PySem.Str.ofString "up")])) e2 = some (.tup [.int 21, .int 1, .str (PySem.Str.ofString "up")]) := upd_same
        generalize upd M1 e2 (.tup [.int 21, .int 1, .str (PySem.Str.ofString "up")]) = M2 at s2 q2 ⊢
        refine ⟨by show 3 ≤ sizeLine; decide, fun e3 te3 => ?_⟩
        have s3 : Same M2 (upd M2 e3 (.tup [.int 22, .int 1, .str (PySem.Str.ofString "down")])) := same_new te3
        have q3 : (upd M2 e3 (.tup [.int 22, .int 1, .str (PySem.Str.ofString "down")])) e3 = some (.tup [.int 22, .int 1, .str (PySem.Str.ofString "down")]) := upd_same
        generalize upd M2 e3 (.tup [.int 22, .int 1, .str (PySem.Str.ofString "down")]) = M3 at s3 q3 ⊢
        refine ⟨by show 3 ≤ sizeLine; decide, fun e4 te4 => ?_⟩
        have s4 : Same M3 (upd M3 e4 (.tup [.int 23, .int 1, .str (PySem.Str.ofString "up")])) := same_new te4
        have q4 : (upd M3 e4 (.tup [.int 23, .int 1, .str (PySem.Str.ofString "up")])) e4 = some (.tup [.int 23, .int 1, .str (PySem.Str.ofString "up")]) := upd_same
        generalize upd M3 e4 (.tup [.int 23, .int 1, .str (PySem.Str.ofString "up")]) = M4 at s4 q4 ⊢
        refine ⟨by show 6 ≤ sizeLine; decide, fun e5 te5 => ?_⟩
        have s5 : Same M4 (upd M4 e5 (.lst [.ref z6, .ref z7, .ref e1, .ref e2, .ref e3, .ref e4])) := same_new te5
        have q5 : (upd M4 e5 (.lst [.ref z6, .ref z7, .ref e1, .ref e2, .ref e3, .ref e4])) e5 = some (.lst [.ref z6, .ref z7, .ref e1, .ref e2, .ref e3, .ref e4]) := upd_same
        generalize upd M4 e5 (.lst [.ref z6, .ref z7, .ref e1, .ref e2, .ref e3, .ref e4]) = M5 at s5 q5 ⊢
        have a4 := s4.trans s5
        have a3 := s3.trans a4
        have a2 := s2.trans a3
        have a1 := s1.trans a2
        have sM := sJ6.trans a1
        have f1 : Dq M5 (.ref e1) (Ev.d ⟨20, 1, true⟩) := tp (a2 _ _ q1) (.cons (.int _) (.cons (.int _) (.cons (.str _) .nil)))
        have f2 : Dq M5 (.ref e2) (Ev.d ⟨21, 1, false⟩) := tp (a3 _ _ q2) (.cons (.int _) (.cons (.int _) (.cons (.str _) .nil)))
        have f3 : Dq M5 (.ref e3) (Ev.d ⟨22, 1, true⟩) := tp (a4 _ _ q3) (.cons (.int _) (.cons (.int _) (.cons (.str _) .nil)))
        have f4 : Dq M5 (.ref e4) (Ev.d ⟨23, 1, false⟩) := tp (s5 _ _ q4) (.cons (.int _) (.cons (.int _) (.cons (.str _) .nil)))
        have dR2 : Dq M5 (.ref e5) (recD xR2) := ls q5 (.cons (dR04.of sM) (.cons (dR14.of sM) (.cons f1 (.cons f2 (.cons f3 (.cons f4 .nil))))))
        clear s1 s2 s3 s4 s5 a1 a2 a3 a4 q1 q2 q3 q4 q5 f1 f2 f3 f4
        refine ⟨_, rfl, _, rfl, by show 1 ≤ sizeLine; decide, fun t1 tt1 => ?_⟩
        have s1 : Same M5 (upd M5 t1 (.lst [.int 0])) := same_new tt1
        have q1 : (upd M5 t1 (.lst [.int 0])) t1 = some (.lst [.int 0]) := upd_same
        generalize upd M5 t1 (.lst [.int 0]) = M6 at s1 q1 ⊢
        have sM6 := sM.trans s1
        have dh0 : Dq M6 (.ref t1) (intsD [0]) := ls q1 (.cons (.int _) .nil)
        refine ⟨M6, .ref z5, .ref e5, .ref t1, xL, xR2, [0], 12, rfl, Same.refl M6, ⟨dL4.of sM6, xLOk, dR2.of s1, xR2Ok, by decide, dh0, xH1, by decide, by decide, by decide⟩, fun M7 sv2 s7 h1 h2 h3 => ?_⟩
        obtain rfl := safeIs_eq x4 ⟨h1, h2, h3⟩
        refine ⟨rfl, _, rfl, ?_⟩
        refine iteB (fun h => absurd h (by decide)) fun _ => ?_
        have sM7 := sM6.trans s7
        clear s1 s7 q1 dh0 h1 h2 h3 dR2 q84 dR04 dR14 sM sM6
        refine ⟨by show 3 ≤ sizeLine; decide, fun r1 tr1 => ?_⟩
        have s1 : Same M7 (upd M7 r1 (.tup [.int 0, .int 0, .str (PySem.Str.ofString "down")])) := same_new tr1
        have q1 : (upd M7 r1 (.tup [.int 0, .int 0, .str (PySem.Str.ofString "down")])) r1 = some (.tup [.int 0, .int 0, .str (PySem.Str.ofString "down")]) := upd_same
        generalize upd M7 r1 (.tup [.int 0, .int 0, .str (PySem.Str.ofString "down")]) = U1 at s1 q1 ⊢
        refine ⟨by show 3 ≤ sizeLine; decide, fun r2 tr2 => ?_⟩
        have s2 : Same U1 (upd U1 r2 (.tup [.int 4, .int 0, .str (PySem.Str.ofString "up")])) := same_new tr2
        have q2 : (upd U1 r2 (.tup [.int 4, .int 0, .str (PySem.Str.ofString "up")])) r2 = some (.tup [.int 4, .int 0, .str (PySem.Str.ofString "up")]) := upd_same
        generalize upd U1 r2 (.tup [.int 4, .int 0, .str (PySem.Str.ofString "up")]) = U2 at s2 q2 ⊢
        refine ⟨by show 3 ≤ sizeLine; decide, fun r3 tr3 => ?_⟩
        have s3 : Same U2 (upd U2 r3 (.tup [.int 7, .int 1, .str (PySem.Str.ofString "down")])) := same_new tr3
        have q3 : (upd U2 r3 (.tup [.int 7, .int 1, .str (PySem.Str.ofString "down")])) r3 = some (.tup [.int 7, .int 1, .str (PySem.Str.ofString "down")]) := upd_same
        generalize upd U2 r3 (.tup [.int 7, .int 1, .str (PySem.Str.ofString "down")]) = U3 at s3 q3 ⊢
        refine ⟨by show 3 ≤ sizeLine; decide, fun r4 tr4 => ?_⟩
        have s4 : Same U3 (upd U3 r4 (.lst [.ref r1, .ref r2, .ref r3])) := same_new tr4
        have q4 : (upd U3 r4 (.lst [.ref r1, .ref r2, .ref r3])) r4 = some (.lst [.ref r1, .ref r2, .ref r3]) := upd_same
        generalize upd U3 r4 (.lst [.ref r1, .ref r2, .ref r3]) = U4 at s4 q4 ⊢
        have a3 := s3.trans s4
        have a2 := s2.trans a3
        have a1 := s1.trans a2
        have f1 : Dq U4 (.ref r1) (Ev.d ⟨0, 0, true⟩) := tp (a2 _ _ q1) (.cons (.int _) (.cons (.int _) (.cons (.str _) .nil)))
        have f2 : Dq U4 (.ref r2) (Ev.d ⟨4, 0, false⟩) := tp (a3 _ _ q2) (.cons (.int _) (.cons (.int _) (.cons (.str _) .nil)))
        have f3 : Dq U4 (.ref r3) (Ev.d ⟨7, 1, true⟩) := tp (s4 _ _ q3) (.cons (.int _) (.cons (.int _) (.cons (.str _) .nil)))
        have dR3 : Dq U4 (.ref r4) (recD xR3) := ls q4 (.cons f1 (.cons f2 (.cons f3 .nil)))
        have sU := sM7.trans a1
        have dLU := dL4.of sU
        have sHU := sH4.trans sU
        clear s1 s2 s3 s4 a1 a2 a3 q1 q2 q3 q4 f1 f2 f3 sM7 sU
        refine ⟨by show 1 ≤ sizeLine; decide, fun g1 tg1 => ?_⟩
        have s1 : Same U4 (upd U4 g1 (.lst [.int 0])) := same_new tg1
        have q1 : (upd U4 g1 (.lst [.int 0])) g1 = some (.lst [.int 0]) := upd_same
        generalize upd U4 g1 (.lst [.int 0]) = Y1 at s1 q1 ⊢
        refine ⟨by show 1 ≤ sizeLine; decide, fun g2 tg2 => ?_⟩
        have s2 : Same Y1 (upd Y1 g2 (.lst [.int 1])) := same_new tg2
        have q2 : (upd Y1 g2 (.lst [.int 1])) g2 = some (.lst [.int 1]) := upd_same
        generalize upd Y1 g2 (.lst [.int 1]) = Y2 at s2 q2 ⊢
        refine ⟨by show 2 ≤ sizeLine; decide, fun g3 tg3 => ?_⟩
        have s3 : Same Y2 (upd Y2 g3 (.lst [.int 0, .int 1])) := same_new tg3
        have q3 : (upd Y2 g3 (.lst [.int 0, .int 1])) g3 = some (.lst [.int 0, .int 1]) := upd_same
        generalize upd Y2 g3 (.lst [.int 0, .int 1]) = Y3 at s3 q3 ⊢
        refine ⟨by show 3 ≤ sizeLine; decide, fun g4 tg4 => ?_⟩
        have s4 : Same Y3 (upd Y3 g4 (.lst [.ref g1, .ref g2, .ref g3])) := same_new tg4
        have q4 : (upd Y3 g4 (.lst [.ref g1, .ref g2, .ref g3])) g4 = some (.lst [.ref g1, .ref g2, .ref g3]) := upd_same
        generalize upd Y3 g4 (.lst [.ref g1, .ref g2, .ref g3]) = Y4 at s4 q4 ⊢
        have dh1 : Dq Y4 (.ref g1) (intsD [0]) := ls (s4 _ _ (s3 _ _ (s2 _ _ q1))) (.cons (.int _) .nil)
        have dh2 : Dq Y4 (.ref g2) (intsD [1]) := ls (s4 _ _ (s3 _ _ q2)) (.cons (.int _) .nil)
        have dh3 : Dq Y4 (.ref g3) (intsD [0, 1]) := ls (s4 _ _ q3) (.cons (.int _) (.cons (.int _) .nil))
        have sY := ((s1.trans s2).trans s3).trans s4
        have dLY := dLU.of sY
        have dRY := dR3.of sY
        have sHY := sHU.trans sY
        clear s1 s2 s3 s4 q1 q2 q3 sY
        refine ⟨g4, rfl, ⟨_, sqL q4⟩, fun D hD => ?_⟩
        refine lcD (G := Y4) (G1 := Y4) (fun i => [PyData.int 3, .int 100, .int 4][i]?) (walkL (K := K) (a := g4) (xs := [.ref g1, .ref g2, .ref g3])) (by show 3 ≤ 100000; decide) (Gr.refl (Same.refl Y4)) (fun Gi Hi g => g.keep _ _ q4) hD (fun i y Gi Hi H' Ok No hi g yy okk no => ?_) fun G5 Y5 g5 g5' dq => ?_
        · obtain ⟨rfl, hy⟩ := yy
          have hh : ∃ (half : List Int) (sv : Int), Dq Y4 y (intsD half) ∧ HalfOk xL half ∧ half.length ≤ 1000 ∧ safeIs xL xR3 half 100 sv = true ∧ [PyData.int 3, .int 100, .int 4][i]? = some (.int sv) := by
            have hi3 : i = 0 ∨ i = 1 ∨ i = 2 := by simp at hi; omega
            rcases hi3 with rfl | rfl | rfl
            · obtain rfl := Option.some.inj hy
              exact ⟨[0], 3, dh1, xH1, by decide, x5, rfl⟩
            · obtain rfl := Option.some.inj hy
              exact ⟨[1], 100, dh2, xH2, by decide, x6, rfl⟩
            · obtain rfl := Option.some.inj hy
              exact ⟨[0, 1], 4, dh3, xH3, by decide, x7, rfl⟩
          obtain ⟨half, sv, dh, hho, hhl, hsv, hres⟩ := hh
          refine ⟨rfl, _, rfl, _, rfl, _, rfl, H', .ref z5, .ref r4, y, xL, xR3, half, 100, rfl, Same.refl H', ⟨dLY.of g.keep, xLOk, dRY.of g.keep, xR3Ok, by decide, dh.of g.keep, hho, hhl, by decide, by decide⟩, fun H6 sv2 s6 h1 h2 h3 => ?_⟩
          obtain rfl := safeIs_eq hsv ⟨h1, h2, h3⟩
          exact okk _ Gi H6 _ ((Gr.refl g.sub).same s6) (.int _) hres
        · have em : made (fun i => [PyData.int 3, .int 100, .int 4][i]?) [V.ref g1, .ref g2, .ref g3].length = [PyData.int 3, .int 100, .int 4] := rfl
          rw [em] at dq
          have dq5 := dq.of g5.sub
          have sY5 := g5'.keep
          refine ⟨by show 3 ≤ sizeLine; decide, fun w2 hw2 => ?_⟩
          have sw : Same Y5 (upd Y5 w2 (.lst [.int 3, .int 100, .int 4])) := same_new hw2
          have qw : (upd Y5 w2 (.lst [.int 3, .int 100, .int 4])) w2 = some (.lst [.int 3, .int 100, .int 4]) := upd_same
          generalize upd Y5 w2 (.lst [.int 3, .int 100, .int 4]) = Y6 at sw qw ⊢
          refine ⟨1, _, _, dq5.of sw, ls qw (.cons (.int _) (.cons (.int _) (.cons (.int _) .nil))), by decide, fine_ints1 [3, 100, 4], fine_ints1 [3, 100, 4], fun c hc => ?_⟩
          obtain rfl : c = true := hc.mpr rfl
          exact k _ ((sHY.trans sY5).trans sw)
end
end HT8
end partW28
section partM4
set_option Elab.async false
set_option linter.all false
set_option maxRecDepth 100000
namespace HT8
open PySem PySem.Spec PyProof.Rows L2 HT5 HT6 HT7
/-- Sound, by looking -/
def soundB (L : Lay) (R : List Ev) (half : List Int) : Bool :=
  let as := mArrivals L R half
  let fl := mFlat L R
  let nr := nearL R half
  let mg := mMargins L R
  (as.any fun a => decide (a.least = 0) && decide (a.outs = fl)) && (as.all fun a => decide (0 ≤ a.least)) && (as.all fun a => !decide (0 < a.least) || a.delays.any fun d => decide (a.least ≤ d)) &&
  (as.all fun a => decide (a.outs = fl) || nr.any (fun m => decide (m < a.least)) || mg.any fun m => decide (m < a.least)) && (nr.all fun m => decide (0 ≤ m)) && (mg.all fun m => decide (0 ≤ m)) &&
  (as.all fun a => !decide (a.outs = fl ++ [(some (true, ("zz" : PySem.Str)) : Out)])) && decide (as.length ≤ 62)
theorem soundB_ok {L : Lay} {R : List Ev} {half : List Int} (h : soundB L R half = true) : Sound L R half := by
  unfold soundB at h
  simp only [Bool.and_eq_true, Bool.or_eq_true, List.all_eq_true, List.any_eq_true, decide_eq_true_eq, Bool.not_eq_true', decide_eq_false_iff_not] at h
  obtain ⟨⟨⟨⟨⟨⟨⟨h1, h2⟩, h3⟩, h4⟩, h5⟩, h6⟩, h7⟩, h8⟩ := h
  refine ⟨h1, h2, fun a ha hp => ?_, fun a ha hne => ?_, h5, h6, h7, h8⟩
  · rcases h3 a ha with q | q
    · exact absurd hp q
    · exact q
  · rcases h4 a ha with (q | q) | q
    · exact absurd q hne
    · exact .inl q
    · exact .inr q
theorem sound0 : Sound (theCase [] 0 0).L (theCase [] 0 0).R (theCase [] 0 0).half := soundB_ok (by decide +kernel)
end HT8
end partM4
section partM5
set_option Elab.async false
set_option linter.all false
set_option maxRecDepth 100000
namespace HT8
open PySem PySem.Spec PyProof.Rows L2 HT5 HT6 HT7
/-! ### relaxing -/
theorem relax1_get {ns : List Int} {b : Bd} (hb : b.2.1 < ns.length) (i : Nat) : (relax1 ns b).getD i 0 = if i = b.2.1 ∧ ns.getD b.2.1 0 < ns.getD b.1 0 + b.2.2 then ns.getD b.1 0 + b.2.2 else ns.getD i 0 := by
  unfold relax1
  by_cases h : ns.getD b.2.1 0 < ns.getD b.1 0 + b.2.2
  · rw [if_pos h]
    by_cases e : i = b.2.1
    · rw [if_pos ⟨e, h⟩, e, List.getD_eq_getElem?_getD, List.getElem?_set_self hb]
      rfl
    · rw [if_neg (fun q => e q.1), List.getD_eq_getElem?_getD, List.getElem?_set_ne (Ne.symm e), ← List.getD_eq_getElem?_getD]
  · rw [if_neg h, if_neg (fun q => h q.2)]
theorem relax1_le {ns : List Int} {b : Bd} (hb : b.2.1 < ns.length) (i : Nat) : ns.getD i 0 ≤ (relax1 ns b).getD i 0 := by
  rw [relax1_get hb]
  split
  · rename_i h
    rw [h.1]; omega
  · exact Int.le_refl _
def Sat (t : List Int) (bs : List Bd) : Prop := ∀ b ∈ bs, t.getD b.1 0 + b.2.2 ≤ t.getD b.2.1 0
theorem relax1_sat {t : List Int} {b : Bd} (h : t.getD b.1 0 + b.2.2 ≤ t.getD b.2.1 0) : relax1 t b = t := if_neg (by omega)
theorem raises_false : ∀ {bs : List Bd} {t : List Int}, raisesAll t bs = false ↔ Sat t bs
  | [], t => ⟨fun _ _ h => (by cases h), fun _ => rfl⟩
  | b :: r, t => by
    constructor
    · intro h
      have h' : (raises1 t b || raisesAll (relax1 t b) r) = false := h
      rw [Bool.or_eq_false_iff] at h'
      have h1 : t.getD b.1 0 + b.2.2 ≤ t.getD b.2.1 0 := by
        have := of_decide_eq_false h'.1
        omega
      have h2 := h'.2
      rw [relax1_sat h1] at h2
      have h3 := raises_false.mp h2
      intro x hx
      rcases List.mem_cons.mp hx with rfl | hx
      · exact h1
      · exact h3 x hx
    · intro h
      have h1 := h b List.mem_cons_self
      have h2 : raises1 t b = false := decide_eq_false (by omega)
      show (raises1 t b || raisesAll (relax1 t b) r) = false
      rw [h2, relax1_sat h1, Bool.false_or]
      exact raises_false.mpr fun x hx => h x (List.mem_cons_of_mem _ hx)
theorem relaxAll_sat : ∀ {bs : List Bd} {t : List Int}, Sat t bs → relaxAll t bs = t
  | [], _, _ => rfl
  | b :: r, t, h => by
    show relaxAll (relax1 t b) r = t
    rw [relax1_sat (h b List.mem_cons_self)]
    exact relaxAll_sat fun x hx => h x (List.mem_cons_of_mem _ hx)
theorem liftGo_sat {bs : List Bd} : ∀ {f : Nat} {ns t : List Int}, liftGo bs f ns = some t → Sat t bs
  | 0, _, _, h => by cases h
  | f + 1, ns, t, h => by
    unfold liftGo at h
    cases e : raisesAll ns bs with
    | true => rw [e, if_pos rfl] at h; exact liftGo_sat h
    | false =>
      rw [e, if_neg (by decide)] at h
      have s := raises_false.mp e
      rw [relaxAll_sat s] at h
      rw [← Option.some.inj h]
      exact s
theorem lifted_self {bs : List Bd} {t : List Int} (h : Sat t bs) : mLifted bs t = some t := by
  unfold mLifted liftGo
  rw [raises_false.mpr h, if_neg (by decide), relaxAll_sat h]
theorem relaxAll_inv {I : List Int → Prop} : ∀ {bs : List Bd} {ns : List Int}, (∀ ns b, b ∈ bs → I ns → I (relax1 ns b)) → I ns → I (relaxAll ns bs)
  | [], _, _, h => h
  | b :: r, ns, hI, h => relaxAll_inv (bs := r) (fun ns x hx => hI ns x (List.mem_cons_of_mem _ hx)) (hI ns b List.mem_cons_self h)
theorem liftGo_inv {I : List Int → Prop} {bs : List Bd} (hI : ∀ ns b, b ∈ bs → I ns → I (relax1 ns b)) : ∀ {f : Nat} {ns t : List Int}, I ns → liftGo bs f ns = some t → I t
  | 0, _, _, _, h => by cases h
  | f + 1, ns, t, i, h => by
    unfold liftGo at h
    have i2 := relaxAll_inv hI i
    split at h
    · exact liftGo_inv hI i2 h
    · rw [← Option.some.inj h]; exact i2
theorem lifted_le {bs : List Bd} {ns t : List Int} (hb : BdIn ns.length bs) (h : mLifted bs ns = some t) (i : Nat) : ns.getD i 0 ≤ t.getD i 0 := by
  refine (liftGo_inv (I := fun x => x.length = ns.length ∧ ∀ i, ns.getD i 0 ≤ x.getD i 0) (fun x b hx hi => ?_) ⟨rfl, fun _ => Int.le_refl _⟩ h).2 i
  refine ⟨(relax1_len x b).trans hi.1, fun j => Int.le_trans (hi.2 j) (relax1_le (by rw [hi.1]; exact (hb b hx).2) j)⟩
/-! ### the ticks of an arrival -/
structure TkOk (R : List Ev) (row : List Nat) (t : List Int) : Prop where
  len : t.length = row.length + 2
  nn : ∀ i, 0 ≤ t.getD i 0
  dly : t.getD (row.length + 1) 0 = 0 ∨ ∃ p, p < row.length ∧ t.getD (row.length + 1) 0 ≤ t.getD p 0 - mOff R (row.getD p 0)
structure BdGood (R : List Ev) (row : List Nat) (b : Bd) : Prop where
  h1 : b.1 < row.length + 2
  h2 : b.2.1 < row.length + 2
  h3 : b.2.1 = row.length + 1 → b.1 < row.length ∧ b.2.2 = - mOff R (row.getD b.1 0)
theorem relax_ok {R : List Ev} {row : List Nat} {t : List Int} {b : Bd} (hb : BdGood R row b) (h : TkOk R row t) : TkOk R row (relax1 t b) := by
  have hl : b.2.1 < t.length := by rw [h.len]; exact hb.h2
  refine ⟨(relax1_len t b).trans h.len, fun i => Int.le_trans (h.nn i) (relax1_le hl i), ?_⟩
  have g := relax1_get hl (row.length + 1)
  split at g
  · rename_i hc
    obtain ⟨p1, p2⟩ := hb.h3 hc.1.symm
    refine .inr ⟨b.1, p1, ?_⟩
    have g2 := relax1_get hl b.1
    rw [if_neg (by omega)] at g2
    rw [g, g2, p2]
    omega
  · rw [g]
    rcases h.dly with z | ⟨p, hp, hle⟩
    · exact .inl z
    · have := relax1_le hl p
      exact .inr ⟨p, hp, by omega⟩
theorem lift_ok {R : List Ev} {row : List Nat} {bs : List Bd} (hb : ∀ b ∈ bs, BdGood R row b) {ns t : List Int} (h : TkOk R row ns) (e : mLifted bs ns = some t) : TkOk R row t :=
  liftGo_inv (fun ns b hx => relax_ok (hb b hx)) h e
theorem enumL_mem {α : Type} {x : α} {i : Nat} : ∀ {l : List α} {k : Nat}, (i, x) ∈ enumL k l ↔ ∃ j, i = k + j ∧ l[j]? = some x
  | [], k => by simp [enumL]
  | y :: l, k => by
    constructor
    · intro h
      rcases List.mem_cons.mp (show (i, x) ∈ (k, y) :: enumL (k + 1) l from h) with h | h
      · cases h; exact ⟨0, rfl, rfl⟩
      · obtain ⟨j, e, hj⟩ := enumL_mem.mp h
        exact ⟨j + 1, by omega, hj⟩
    · rintro ⟨j, e, hj⟩
      show (i, x) ∈ (k, y) :: enumL (k + 1) l
      cases j with
      | zero =>
        have : y = x := Option.some.inj hj
        rw [this, e]; exact List.mem_cons_self
      | succ j => exact List.mem_cons_of_mem _ (enumL_mem.mpr ⟨j, by omega, hj⟩)
theorem getD_of {α : Type} {l : List α} {j : Nat} {x d : α} (h : l[j]? = some x) : l.getD j d = x := by rw [List.getD_eq_getElem?_getD, h]; rfl
theorem get_lt {α : Type} {l : List α} {j : Nat} {x : α} (h : l[j]? = some x) : j < l.length := (List.getElem?_eq_some_iff.mp h).1
theorem get_some {α : Type} {l : List α} {j : Nat} (d : α) (h : j < l.length) : l[j]? = some (l.getD j d) := by
  rw [List.getD_eq_getElem?_getD, List.getElem?_eq_getElem h]; rfl
theorem arr_good {R : List Ev} {half : List Int} {row : List Nat} : ∀ b ∈ arrBounds R half row, BdGood R row b := fun b hb => by
  rcases List.mem_append.mp hb with h | h
  · obtain ⟨p, hp, rfl⟩ := List.mem_map.mp h
    have := List.mem_range.mp hp
    exact ⟨by show p < _; omega, by show p + 1 < _; omega, fun e => by have : p + 1 = row.length + 1 := e; omega⟩
  · obtain ⟨⟨p, n⟩, hp, h⟩ := List.mem_flatMap.mp h
    obtain ⟨j, e, hj⟩ := enumL_mem.mp hp
    have e' : p = j := by omega
    subst e'
    have hlt := get_lt hj
    rcases List.mem_cons.mp h with rfl | h
    · exact ⟨by show row.length < _; omega, by show p < _; omega, fun e => by have : p = row.length + 1 := e; omega⟩
    · rw [List.mem_singleton.mp h]
      refine ⟨by show p < _; omega, ?_, fun _ => ⟨hlt, ?_⟩⟩
      · have q : (if inHalf half R n then row.length + 1 else row.length) < row.length + 2 := by split <;> omega
        exact q
      · show - mOff R n = _
        rw [getD_of hj]
theorem zeros_ok {R : List Ev} {row : List Nat} : TkOk R row (List.replicate (row.length + 2) 0) := by
  have z : ∀ i, (List.replicate (row.length + 2) (0 : Int)).getD i 0 = 0 := fun i => by
    rw [List.getD_eq_getElem?_getD, List.getElem?_replicate]
    split <;> rfl
  exact ⟨List.length_replicate, fun i => by rw [z]; exact Int.le_refl _, .inl (z _)⟩
/-! ### along the ways -/
theorem waysGo_inv {L : Lay} {S : List Stp} {I : Nat → Wy → Prop} (hs : ∀ n s w w', S[n]? = some s → I n w → w' ∈ nextWays L S n s w → I (n + 1) w') : ∀ {S' : List Stp} {n : Nat} {ws : List Wy}, S.drop n = S' → (∀ w ∈ ws, I n w) → ∀ w ∈ waysGo L S n ws S', I (n + S'.length) w
  | [], n, ws, _, h, w, hw => h w hw
  | s :: r, n, ws, e, h, w, hw => by
    have e1 : S[n]? = some s := by
      have : (S.drop n)[0]? = some s := by rw [e]; rfl
      rw [List.getElem?_drop] at this
      exact this
    have e2 : S.drop (n + 1) = r := by
      have := congrArg List.tail e
      rw [List.tail_drop] at this
      exact this
    have := waysGo_inv hs (S' := r) (n := n + 1) (ws := ws.flatMap (nextWays L S n s)) e2 (fun w' hw' => by
      obtain ⟨w0, h0, h1⟩ := List.mem_flatMap.mp hw'
      exact hs n s w0 w' e1 (h w0 h0) h1) w hw
    rw [show n + (s :: r).length = n + 1 + r.length by rw [List.length_cons]; omega]
    exact this
theorem waysGo_some {L : Lay} {S : List Stp} {I : Nat → Wy → Prop} (hs : ∀ n s w, S[n]? = some s → I n w → ∃ w' ∈ nextWays L S n s w, I (n + 1) w') : ∀ {S' : List Stp} {n : Nat} {ws : List Wy}, S.drop n = S' → (∃ w ∈ ws, I n w) → ∃ w ∈ waysGo L S n ws S', I (n + S'.length) w
  | [], n, ws, _, h => h
  | s :: r, n, ws, e, ⟨w, hw, hi⟩ => by
    have e1 : S[n]? = some s := by
      have : (S.drop n)[0]? = some s := by rw [e]; rfl
      rw [List.getElem?_drop] at this
      exact this
    have e2 : S.drop (n + 1) = r := by
      have := congrArg List.tail e
      rw [List.tail_drop] at this
      exact this
    obtain ⟨w', h1, h2⟩ := hs n s w e1 hi
    have := waysGo_some hs (S' := r) (n := n + 1) (ws := ws.flatMap (nextWays L S n s)) e2 ⟨w', List.mem_flatMap.mpr ⟨w, hw, h1⟩, h2⟩
    rw [show n + (s :: r).length = n + 1 + r.length by rw [List.length_cons]; omega]
    exact this
theorem next_cases {L : Lay} {S : List Stp} {n : Nat} {s : Stp} {w w' : Wy} (h : w' ∈ nextWays L S n s w) : (mAsked L S n s w.pl = none ∧ w' = mPlay L w s) ∨ ∃ q t tap ts, mAsked L S n s w.pl = some (q, t) ∧ mLifted (w.bounds ++ [pressBd tap n q t]) w.ticks = some ts ∧ w' = ⟨(mDown L w.pl s.1 tap).2, w.bounds ++ [pressBd tap n q t], ts, w.choice ++ [tapS tap], w.res ++ [(mDown L w.pl s.1 tap).1]⟩ := by
  unfold nextWays at h
  split at h
  · rename_i e
    exact .inl ⟨e, List.mem_singleton.mp h⟩
  · rename_i q t e
    obtain ⟨tap, _, e2⟩ := List.mem_filterMap.mp h
    obtain ⟨ts, h1, h2⟩ := turned_eq e2
    exact .inr ⟨q, t, tap, ts, e, h1, h2⟩
theorem asked_facts {L : Lay} {S : List Stp} {n : Nat} {s : Stp} {p : Pl} {q : Nat} {t : Int} (h : mAsked L S n s p = some (q, t)) : s.2 = true ∧ n < q ∧ q < S.length ∧ ∃ l c hh r, mLook L p (keyAt S n) = (l, .dual c hh t r) ∧ mDecider S n r = some q ∧ keyAt S q = keyAt S n := by
  unfold mAsked at h
  split at h
  · rename_i e
    obtain ⟨h1, h2⟩ := choice_in h
    refine ⟨e, h1, h2, ?_⟩
    unfold choiceAt at h
    split at h
    · rename_i c hh t' r el
      split at h
      · cases h
      · rename_i q' ed
        split at h
        · cases h
        · rename_i ek
          cases h
          exact ⟨(mLook L p (keyAt S n)).1, c, hh, r, by rw [← el], ed, Decidable.of_not_not ek⟩
    · cases h
  · cases h
structure WTk (R : List Ev) (half : List Int) (row : List Nat) (w : Wy) : Prop where
  tk : TkOk R row w.ticks
  bd : ∀ b ∈ w.bounds, BdGood R row b
  sat : Sat w.ticks w.bounds
  arr : ∀ b ∈ arrBounds R half row, b ∈ w.bounds
theorem press_good {R : List Ev} {row : List Nat} {tap : Bool} {n q : Nat} {t : Int} (h1 : n < row.length) (h2 : q < row.length) : BdGood R row (pressBd tap n q t) := by
  cases tap
  · exact ⟨by show n < _; omega, by show q < _; omega, fun e => by have : q = row.length + 1 := e; omega⟩
  · exact ⟨by show q < _; omega, by show n < _; omega, fun e => by have : n = row.length + 1 := e; omega⟩
theorem wtk_turn {R : List Ev} {half : List Int} {row : List Nat} {w : Wy} {b : Bd} {ts : List Int} (h : WTk R half row w) (hb : BdGood R row b) (e : mLifted (w.bounds ++ [b]) w.ticks = some ts) (pl : Pl) (ch : List PySem.Str) (res : List Out) : WTk R half row ⟨pl, w.bounds ++ [b], ts, ch, res⟩ := by
  have hg : ∀ x ∈ w.bounds ++ [b], BdGood R row x := fun x hx => by
    rcases List.mem_append.mp hx with z | z
    · exact h.bd x z
    · rw [List.mem_singleton.mp z]; exact hb
  exact ⟨lift_ok hg h.tk e, hg, liftGo_sat e, fun x hx => List.mem_append_left _ (h.arr x hx)⟩
theorem wtk_next {L : Lay} {R : List Ev} {half : List Int} {row : List Nat} {S : List Stp} (hS : S.length = row.length) {n : Nat} {s : Stp} {w w' : Wy} (hn : n < row.length) (h : WTk R half row w) (hm : w' ∈ nextWays L S n s w) : WTk R half row w' := by
  rcases next_cases hm with ⟨_, rfl⟩ | ⟨q, t, tap, ts, ha, hl, rfl⟩
  · exact ⟨h.tk, h.bd, h.sat, h.arr⟩
  · obtain ⟨_, _, hq, _⟩ := asked_facts ha
    exact wtk_turn h (press_good hn (by omega)) hl _ _ _
theorem wtk_start {R : List Ev} {half : List Int} {row : List Nat} {t : List Int} (h : mLifted (arrBounds R half row) (List.replicate (row.length + 2) 0) = some t) : WTk R half row ⟨pl0, arrBounds R half row, t, [], []⟩ :=
  ⟨lift_ok arr_good zeros_ok h, arr_good, liftGo_sat h, fun _ hb => hb⟩
theorem order_len (R : List Ev) (row : List Nat) : (orderOf R row).length = row.length := List.length_map _
theorem wtk_all {L : Lay} {R : List Ev} {half : List Int} {row : List Nat} {t : List Int} (h : mLifted (arrBounds R half row) (List.replicate (row.length + 2) 0) = some t) : ∀ w ∈ mWays L (orderOf R row) ⟨pl0, arrBounds R half row, t, [], []⟩, WTk R half row w := fun w hw =>
  waysGo_inv (I := fun _ w => WTk R half row w) (fun n s w w' hn hi hm => wtk_next (order_len R row) (by have := get_lt hn; rw [order_len] at this; exact this) hi hm) (S' := orderOf R row) (n := 0) rfl (fun w' hw' => by rw [List.mem_singleton.mp hw']; exact wtk_start h) w hw
theorem arr_wtk {L : Lay} {R : List Ev} {half : List Int} {a : Arr} (h : a ∈ mArrivals L R half) : ∃ row ∈ rowsOf R half, ∃ w, WTk R half row w ∧ a = arrOf R row w := by
  obtain ⟨row, hr, t, hl, w, hw, e⟩ := arr_cases h
  exact ⟨row, hr, w, wtk_all hl w hw, e⟩
/-! ### the rows -/
def RQ (R : List Ev) (half : List Int) (x y : Nat) : Prop := inHalf half R x = inHalf half R y → x < y
theorem merge_pw {P : Nat → Bool} : ∀ {f : Nat} {a b : List Nat}, a.length + b.length ≤ f → (∀ x ∈ a, P x = false) → (∀ x ∈ b, P x = true) → a.Pairwise (· < ·) → b.Pairwise (· < ·) → ∀ r ∈ mergeF f a b, r.Pairwise fun x y => P x = P y → x < y
  | 0, a, b, hf, _, _, _, _, r, hr => by
    have h1 : a = [] := List.length_eq_zero_iff.mp (by omega)
    have h2 : b = [] := List.length_eq_zero_iff.mp (by omega)
    subst h1 h2
    rw [List.mem_singleton.mp hr]
    exact .nil
  | f + 1, [], b, _, _, _, _, hb, r, hr => by
    rw [List.mem_singleton.mp (show r ∈ [b] from hr)]
    exact hb.imp (S := fun x y => P x = P y → x < y) fun {_ _} h _ => h
  | f + 1, a :: as, [], _, _, _, ha, _, r, hr => by
    rw [List.mem_singleton.mp (show r ∈ [a :: as] from hr)]
    exact ha.imp (S := fun x y => P x = P y → x < y) fun {_ _} h _ => h
  | f + 1, a :: as, b :: bs, hf, pa, pb, ha, hb, r, hr => by
    have hf' : as.length + bs.length + 2 ≤ f + 1 := by simp only [List.length_cons] at hf; omega
    rcases List.mem_append.mp (show r ∈ (mergeF f as (b :: bs)).map (a :: ·) ++ (mergeF f (a :: as) bs).map (b :: ·) from hr) with h | h
    · obtain ⟨r', h2, rfl⟩ := List.mem_map.mp h
      have ih := merge_pw (P := P) (by simp only [List.length_cons]; omega) (fun x hx => pa x (List.mem_cons_of_mem _ hx)) pb (List.pairwise_cons.mp ha).2 hb r' h2
      refine List.pairwise_cons.mpr ⟨fun y hy e => ?_, ih⟩
      rcases mergeF_sub _ _ _ _ h2 y hy with z | z
      · exact (List.pairwise_cons.mp ha).1 y z
      · rw [pa a List.mem_cons_self, pb y z] at e; cases e
    · obtain ⟨r', h2, rfl⟩ := List.mem_map.mp h
      have ih := merge_pw (P := P) (by simp only [List.length_cons]; omega) pa (fun x hx => pb x (List.mem_cons_of_mem _ hx)) ha (List.pairwise_cons.mp hb).2 r' h2
      refine List.pairwise_cons.mpr ⟨fun y hy e => ?_, ih⟩
      rcases mergeF_sub _ _ _ _ h2 y hy with z | z
      · rw [pb b List.mem_cons_self, pa y z] at e; cases e
      · exact (List.pairwise_cons.mp hb).1 y z
theorem range_pw (n : Nat) : (List.range n).Pairwise (· < ·) := List.pairwise_lt_range
theorem row_pw {R : List Ev} {half : List Int} {row : List Nat} (h : row ∈ rowsOf R half) : row.Pairwise (RQ R half) :=
  merge_pw (P := inHalf half R) (Nat.le_refl _) (fun x hx => by have := (List.mem_filter.mp hx).2; simpa using this) (fun x hx => (List.mem_filter.mp hx).2) ((range_pw _).filter _) ((range_pw _).filter _) row h
theorem merge_id (P : Nat → Bool) : ∀ l : List Nat, l ∈ mergeF ((l.filter fun n => !P n).length + (l.filter P).length) (l.filter fun n => !P n) (l.filter P)
  | [] => List.mem_cons_self
  | x :: l => by
    have ih := merge_id P l
    cases hx : P x with
    | true =>
      rw [List.filter_cons_of_neg (by rw [hx]; decide), List.filter_cons_of_pos hx, List.length_cons]
      cases ha : l.filter fun n => !P n with
      | nil =>
        have : l.filter P = l := List.filter_eq_self.mpr fun y hy => by
          cases hp : P y with
          | true => rfl
          | false =>
            have : y ∈ l.filter fun n => !P n := List.mem_filter.mpr ⟨hy, by rw [hp]; rfl⟩
            rw [ha] at this; cases this
        rw [this]
        exact List.mem_cons_self
      | cons a as =>
        rw [ha] at ih
        exact List.mem_append_right _ (List.mem_map.mpr ⟨l, ih, rfl⟩)
    | false =>
      rw [List.filter_cons_of_pos (by rw [hx]; rfl), List.filter_cons_of_neg (by rw [hx]; decide), List.length_cons, Nat.succ_add]
      cases hb : l.filter P with
      | nil =>
        have : l.filter (fun n => !P n) = l := List.filter_eq_self.mpr fun y hy => by
          cases hp : P y with
          | false => rfl
          | true =>
            have : y ∈ l.filter P := List.mem_filter.mpr ⟨hy, hp⟩
            rw [hb] at this; cases this
        rw [this]
        exact List.mem_cons_self
      | cons b bs =>
        rw [hb] at ih
        exact List.mem_append_left _ (List.mem_map.mpr ⟨l, ih, rfl⟩)
theorem range_row (R : List Ev) (half : List Int) : List.range R.length ∈ rowsOf R half := merge_id (inHalf half R) (List.range R.length)
end HT8
end partM5
section partM6
set_option Elab.async false
set_option linter.all false
set_option maxRecDepth 100000
namespace HT8
open PySem PySem.Spec PyProof.Rows L2 HT5 HT6 HT7
/-! ### delays -/
theorem delaysGo_keep {R : List Ev} {ts : List Int} {n : Nat} : ∀ {e : List (Nat × Nat)} {ds : List Int}, n ∉ e.map (·.2) → (delaysGo R ts ds e)[n]? = ds[n]?
  | [], _, _ => rfl
  | (p, m) :: r, ds, h => by
    have h1 : m ≠ n := fun q => h (by rw [q]; exact List.mem_cons_self)
    show (delaysGo R ts (ds.set m _) r)[n]? = _
    rw [delaysGo_keep (fun q => h (List.mem_cons_of_mem _ q)), List.getElem?_set_ne h1]
theorem delaysGo_get {R : List Ev} {ts : List Int} {n p : Nat} : ∀ {e : List (Nat × Nat)} {ds : List Int}, (e.map (·.2)).Nodup → (p, n) ∈ e → n < ds.length → (delaysGo R ts ds e)[n]? = some (ts.getD p 0 - mOff R n)
  | (p', m) :: r, ds, nd, h, hl => by
    have nd' := List.nodup_cons.mp (show (m :: r.map (·.2)).Nodup from nd)
    show (delaysGo R ts (ds.set m (ts.getD p' 0 - mOff R m)) r)[n]? = _
    rcases List.mem_cons.mp h with e | h
    · cases e
      rw [delaysGo_keep nd'.1, List.getElem?_set_self hl]
    · exact delaysGo_get nd'.2 h (by rw [List.length_set]; exact hl)
theorem enumL_snd {α : Type} : ∀ (l : List α) (k : Nat), (enumL k l).map (·.2) = l
  | [], _ => rfl
  | x :: l, k => congrArg (x :: ·) (enumL_snd l (k + 1))
theorem row_nodup {R : List Ev} {half : List Int} {row : List Nat} (h : row ∈ rowsOf R half) : row.Nodup :=
  (row_pw h).imp fun {x y} q e => by
    subst e
    exact Nat.lt_irrefl _ (q rfl)
theorem arr_dly {L : Lay} {R : List Ev} {half : List Int} {a : Arr} (h : a ∈ mArrivals L R half) (hp : 0 < a.least) : ∃ d ∈ a.delays, a.least ≤ d := by
  obtain ⟨row, hr, w, hw, rfl⟩ := arr_wtk h
  have hp' : 0 < w.ticks.getD (row.length + 1) 0 := hp
  rcases hw.tk.dly with z | ⟨p, hpl, hle⟩
  · omega
  · obtain ⟨r1, r2⟩ := row_ok hr
    have e := get_some 0 hpl
    have hn : row.getD p 0 < R.length := r2 _ (List.mem_of_getElem? e)
    refine ⟨_, List.mem_of_getElem? (delaysGo_get (p := p) (n := row.getD p 0) ?_ (enumL_mem.mpr ⟨p, by omega, e⟩) ?_), hle⟩
    · rw [enumL_snd]; exact row_nodup hr
    · rw [List.length_replicate, r1]; exact hn
/-! ### how late each event is -/
section
variable {R : List Ev} {half : List Int} {row : List Nat} {w : Wy}
theorem wtk_lo (h : WTk R half row w) {p n : Nat} (hp : row[p]? = some n) : w.ticks.getD row.length 0 + mOff R n ≤ w.ticks.getD p 0 :=
  h.sat (row.length, p, mOff R n) (h.arr _ (List.mem_append_right _ (List.mem_flatMap.mpr ⟨(p, n), enumL_mem.mpr ⟨p, by omega, hp⟩, List.mem_cons_self⟩)))
theorem wtk_hi (h : WTk R half row w) {p n : Nat} (hp : row[p]? = some n) : w.ticks.getD p 0 - mOff R n ≤ w.ticks.getD (if inHalf half R n then row.length + 1 else row.length) 0 := by
  have := h.sat (p, if inHalf half R n then row.length + 1 else row.length, - mOff R n) (h.arr _ (List.mem_append_right _ (List.mem_flatMap.mpr ⟨(p, n), enumL_mem.mpr ⟨p, by omega, hp⟩, List.mem_cons_of_mem _ List.mem_cons_self⟩)))
  dsimp only at this
  omega
theorem wtk_ch (h : WTk R half row w) {p : Nat} (hp : p + 1 < row.length) : w.ticks.getD p 0 + (if row.getD p 0 > row.getD (p + 1) 0 then 1 else 0) ≤ w.ticks.getD (p + 1) 0 :=
  h.sat (p, p + 1, if row.getD p 0 > row.getD (p + 1) 0 then 1 else 0) (h.arr _ (List.mem_append_left _ (List.mem_map.mpr ⟨p, List.mem_range.mpr (by omega), rfl⟩)))
theorem wtk_late (h : WTk R half row w) {p n : Nat} (hp : row[p]? = some n) : 0 ≤ w.ticks.getD p 0 - mOff R n - w.ticks.getD row.length 0 ∧ w.ticks.getD p 0 - mOff R n - w.ticks.getD row.length 0 ≤ w.ticks.getD (row.length + 1) 0 ∧ (inHalf half R n = false → w.ticks.getD p 0 - mOff R n - w.ticks.getD row.length 0 = 0) := by
  have h1 := wtk_lo h hp
  have h2 := wtk_hi h hp
  have h3 := h.tk.nn row.length
  have h4 := h.tk.nn (row.length + 1)
  cases e : inHalf half R n with
  | true =>
    rw [e, if_pos rfl] at h2
    exact ⟨by omega, by omega, nofun⟩
  | false =>
    rw [e, if_neg (by decide)] at h2
    exact ⟨by omega, by omega, fun _ => by omega⟩
end
theorem sorted_range {row : List Nat} {n : Nat} (hl : row.length = n) (hb : ∀ x ∈ row, x < n) (hs : ∀ p, p + 1 < n → row.getD p 0 < row.getD (p + 1) 0) : row = List.range n := by
  have lo : ∀ p, p < n → p ≤ row.getD p 0 := by
    intro p
    induction p with
    | zero => intro _; exact Nat.zero_le _
    | succ p ih =>
      intro hp
      have h1 := ih (by omega)
      have h2 := hs p hp
      omega
  have hi : ∀ k p, p + k + 1 = n → row.getD p 0 ≤ p := by
    intro k
    induction k with
    | zero =>
      intro p hp
      have := hb _ (List.mem_of_getElem? (get_some 0 (show p < row.length by omega)))
      omega
    | succ k ih =>
      intro p hp
      have h1 := ih (p + 1) (by omega)
      have h2 := hs p (by omega)
      omega
  refine List.ext_getElem (by rw [hl, List.length_range]) fun i h1 h2 => ?_
  rw [List.getElem_range]
  have a := lo i (by omega)
  have b := hi (n - 1 - i) i (by omega)
  have c : row.getD i 0 = row[i] := getD_of (List.getElem?_eq_getElem h1)
  omega
theorem key_at {R : List Ev} {n : Nat} {e : Ev} (h : R[n]? = some e) : keyAt (R.map Ev.stp) n = e.key := by
  unfold keyAt
  rw [getD_of (x := e.stp) (by rw [List.getElem?_map, h]; rfl)]
theorem tick_at {R : List Ev} {n : Nat} {e : Ev} (h : R[n]? = some e) : tickAt R n = e.tick := by
  unfold tickAt
  rw [getD_of h]
theorem asc_at {R : List Ev} (hR : R.Pairwise fun a b => a.tick ≤ b.tick) {i j : Nat} (h : i ≤ j) (hj : j < R.length) : tickAt R i ≤ tickAt R j := by
  rw [tick_at (List.getElem?_eq_getElem hj), tick_at (List.getElem?_eq_getElem (show i < R.length by omega))]
  rcases Nat.lt_or_ge i j with h1 | h1
  · exact List.pairwise_iff_getElem.mp hR i j _ hj h1
  · have : i = j := by omega
    subst this
    exact Int.le_refl _
theorem near_mem {R : List Ev} {half : List Int} {i j : Nat} (h : i < j) (hj : j < R.length) (h1 : inHalf half R i = true) (h2 : inHalf half R j = false) : tickAt R j - tickAt R i ∈ nearL R half := by
  have ei := List.getElem?_eq_getElem (show i < R.length by omega)
  have ej := List.getElem?_eq_getElem hj
  unfold inHalf at h1 h2
  rw [key_at ei] at h1
  rw [key_at ej] at h2
  refine List.mem_flatMap.mpr ⟨(i, R[i]), enumL_mem.mpr ⟨i, by omega, ei⟩, ?_⟩
  unfold nearOf
  rw [if_pos h1]
  refine List.mem_map.mpr ⟨R[j], List.mem_filter.mpr ⟨?_, by rw [h2]; rfl⟩, by rw [tick_at ei, tick_at ej]⟩
  refine List.mem_of_getElem? (i := j - (i + 1)) ?_
  rw [List.getElem?_drop, show i + 1 + (j - (i + 1)) = j by omega]
  exact ej
theorem near_nn {R : List Ev} {half : List Int} (hR : R.Pairwise fun a b => a.tick ≤ b.tick) : ∀ m ∈ nearL R half, 0 ≤ m := fun m hm => by
  obtain ⟨⟨i, e⟩, he, h⟩ := List.mem_flatMap.mp hm
  obtain ⟨j, ej, hj⟩ := enumL_mem.mp he
  have : i = j := by omega
  subst this
  unfold nearOf at h
  split at h
  · obtain ⟨o, ho, rfl⟩ := List.mem_map.mp h
    obtain ⟨k, hk⟩ := List.mem_iff_getElem?.mp (List.mem_filter.mp ho).1
    rw [List.getElem?_drop] at hk
    have := asc_at hR (i := i) (j := i + 1 + k) (by omega) (get_lt hk)
    rw [tick_at hj, tick_at hk] at this
    show 0 ≤ o.tick - e.tick
    omega
  · cases h
theorem fd2 {x : Int} (h : 0 ≤ x) : 0 ≤ x.fdiv 2 ∧ x.fdiv 2 ≤ x := by
  rw [Int.fdiv_eq_ediv_of_nonneg _ (by decide)]
  omega
theorem margin_nn {L : Lay} {R : List Ev} : ∀ m ∈ mMargins L R, 0 ≤ m := fun m hm => by
  obtain ⟨⟨i, x⟩, _, h⟩ := List.mem_filterMap.mp hm
  dsimp only at h
  unfold marginOf at h
  split at h
  · split at h
    · cases h
    · split at h
      · have := Option.some.inj h
        rw [← this]
        split
        · exact (fd2 (by omega)).1
        · exact (fd2 (by omega)).1
      · cases h
  · cases h
/-- a row with no late pair out of order is the record's own -/
theorem row_own {R : List Ev} (hR : R.Pairwise fun a b => a.tick ≤ b.tick) {half : List Int} {row : List Nat} {w : Wy} (hr : row ∈ rowsOf R half) (h : WTk R half row w) (hn : ∀ m ∈ nearL R half, w.ticks.getD (row.length + 1) 0 ≤ m) : row = List.range R.length := by
  obtain ⟨r1, r2⟩ := row_ok hr
  have pw := row_pw hr
  refine sorted_range r1 r2 fun p hp => ?_
  have ea := get_some 0 (show p < row.length by omega)
  have eb := get_some 0 (show p + 1 < row.length by omega)
  have hq : RQ R half (row.getD p 0) (row.getD (p + 1) 0) := by
    have := List.pairwise_iff_getElem.mp pw p (p + 1) (by omega) (by omega) (by omega)
    rw [← getD_of (d := 0) (List.getElem?_eq_getElem (show p < row.length by omega)), ← getD_of (d := 0) (List.getElem?_eq_getElem (show p + 1 < row.length by omega))] at this
    exact this
  have hch := wtk_ch h (p := p) (by omega)
  have la := wtk_late h ea
  have lb := wtk_late h eb
  have hal := r2 _ (List.mem_of_getElem? ea)
  generalize row.getD p 0 = a at *
  generalize row.getD (p + 1) 0 = b at *
  rcases Nat.lt_or_ge a b with z | z
  · exact z
  · exfalso
    by_cases hab : inHalf half R a = inHalf half R b
    · have := hq hab; omega
    · have hne : a ≠ b := fun q => hab (by rw [q])
      rw [if_pos (by omega)] at hch
      cases hb : inHalf half R b with
      | true =>
        have ha : inHalf half R a = false := by
          cases q : inHalf half R a with
          | true => exact absurd (q.trans hb.symm) hab
          | false => rfl
        have := hn _ (near_mem (i := b) (j := a) (by omega) hal hb ha)
        have e1 : mOff R a - mOff R b = tickAt R a - tickAt R b := by unfold mOff; omega
        omega
      | false =>
        have hbz := lb.2.2 hb
        have := asc_at hR z hal
        have e1 : mOff R a - mOff R b = tickAt R a - tickAt R b := by unfold mOff; omega
        omega
/-! ### the own steps -/
structure Run (L : Lay) (R : List Ev) (n : Nat) (w : Wy) : Prop where
  pl : w.pl = plGo L R 0 pl0 (R.take n)
  res : w.res = (stepsGo L R 0 pl0 (R.take n)).map (·.2)
theorem plGo_app {L : Lay} {R : List Ev} : ∀ {A B : List Ev} {n : Nat} {p : Pl}, plGo L R n p (A ++ B) = plGo L R (n + A.length) (plGo L R n p A) B
  | [], B, n, p => rfl
  | e :: A, B, n, p => by
    show plGo L R (n + 1) (step1 L R n p e).2 (A ++ B) = plGo L R (n + (A.length + 1)) (plGo L R (n + 1) (step1 L R n p e).2 A) B
    rw [plGo_app, show n + 1 + A.length = n + (A.length + 1) by omega]
theorem stepsGo_app {L : Lay} {R : List Ev} : ∀ {A B : List Ev} {n : Nat} {p : Pl}, stepsGo L R n p (A ++ B) = stepsGo L R n p A ++ stepsGo L R (n + A.length) (plGo L R n p A) B
  | [], B, n, p => rfl
  | e :: A, B, n, p => by
    show _ :: stepsGo L R (n + 1) (step1 L R n p e).2 (A ++ B) = _ :: (stepsGo L R (n + 1) (step1 L R n p e).2 A ++ stepsGo L R (n + (A.length + 1)) (plGo L R (n + 1) (step1 L R n p e).2 A) B)
    rw [stepsGo_app, show n + 1 + A.length = n + (A.length + 1) by omega]
theorem stepsGo_len {L : Lay} {R : List Ev} : ∀ {A : List Ev} {n : Nat} {p : Pl}, (stepsGo L R n p A).length = A.length
  | [], _, _ => rfl
  | e :: A, n, p => congrArg (· + 1) (stepsGo_len (A := A) (n := n + 1))
theorem take_one {R : List Ev} {n : Nat} {e : Ev} (h : R[n]? = some e) : R.take (n + 1) = R.take n ++ [e] := by
  rw [List.take_succ, h]
  rfl
theorem take_len {R : List Ev} {n : Nat} {e : Ev} (h : R[n]? = some e) : (R.take n).length = n := by
  have := get_lt h
  rw [List.length_take]; omega
theorem step_in {L : Lay} {R : List Ev} {n : Nat} {e : Ev} (h : R[n]? = some e) : (n, (step1 L R n (plGo L R 0 pl0 (R.take n)) e).1) ∈ enumL 0 (mSteps L R) := by
  refine enumL_mem.mpr ⟨n, by omega, ?_⟩
  have e1 : R = R.take n ++ e :: R.drop (n + 1) := by
    have h2 := List.take_append_drop n R
    rw [List.drop_eq_getElem_cons (get_lt h)] at h2
    have h3 : R[n]'(get_lt h) = e := (List.getElem?_eq_some_iff.mp h).2
    rw [h3] at h2
    exact h2.symm
  have e2 : mSteps L R = stepsGo L R 0 pl0 (R.take n ++ e :: R.drop (n + 1)) := by rw [← e1]; rfl
  rw [e2, stepsGo_app, List.getElem?_append_right (by rw [stepsGo_len, take_len h]; omega), stepsGo_len, take_len h, Nat.sub_self, Nat.zero_add]
  rfl
theorem run_step {L : Lay} {R : List Ev} {n : Nat} {e : Ev} {w : Wy} (h : R[n]? = some e) (hw : Run L R n w) {pl : Pl} {bs : List Bd} {ts : List Int} {ch : List PySem.Str} {o : Out} (h1 : pl = (step1 L R n w.pl e).2) (h2 : o = (step1 L R n w.pl e).1.2) : Run L R (n + 1) ⟨pl, bs, ts, ch, w.res ++ [o]⟩ := by
  rw [hw.pl] at h1 h2
  constructor
  · show pl = _
    rw [take_one h, plGo_app, take_len h, Nat.zero_add, h1]
    rfl
  · show w.res ++ [o] = _
    rw [take_one h, stepsGo_app, take_len h, Nat.zero_add, List.map_append, ← hw.res, h2]
    rfl
theorem run_end {L : Lay} {R : List Ev} {w : Wy} (h : Run L R R.length w) : w.res.filter (·.isSome) = mFlat L R := by
  rw [h.res, List.take_length]
  rfl
theorem tapped_dual {R : List Ev} {n q : Nat} {c : PySem.Str} {hh : Wt} {t : Int} {r : PySem.Str} (ed : mDecider (R.map Ev.stp) n r = some q) (ek : keyAt (R.map Ev.stp) q = keyAt (R.map Ev.stp) n) : mTapped R n (.dual c hh t r) = decide (tickAt R q - tickAt R n < t) := by
  unfold mTapped mSure
  dsimp only
  rw [ed]
  dsimp only
  by_cases h : tickAt R q - tickAt R n ≥ t
  · rw [if_pos h, decide_eq_false (by omega)]
  · rw [if_neg h, decide_eq_true (by omega)]
    dsimp only
    rw [ek]
    exact beq_self_eq_true _
theorem tapped_none {L : Lay} {R : List Ev} {n : Nat} {p : Pl} (h : choiceAt L (R.map Ev.stp) n p = none) : mTapped R n (mLook L p (keyAt (R.map Ev.stp) n)).2 = false := by
  unfold choiceAt at h
  unfold mTapped
  split at h
  · rename_i c hh t r ea
    unfold mSure
    split at h
    · rfl
    · rename_i q ed
      split at h
      · rename_i ek
        by_cases c : tickAt R q - tickAt R n ≥ t
        · rw [if_pos c]
        · rw [if_neg c]
          exact beq_eq_false_iff_ne.mpr ek
      · cases h
  · rfl
theorem run_plain {L : Lay} {R : List Ev} {n : Nat} {e : Ev} {w : Wy} (h : R[n]? = some e) (hw : Run L R n w) (ha : mAsked L (R.map Ev.stp) n e.stp w.pl = none) : Run L R (n + 1) (mPlay L w e.stp) := by
  have hk := key_at h
  have hs : (mPlain L w.pl e.stp).2 = (step1 L R n w.pl e).2 ∧ (mPlain L w.pl e.stp).1 = (step1 L R n w.pl e).1.2 := by
    unfold mAsked at ha
    unfold mPlain step1
    cases ed : e.dn with
    | true =>
      have ed2 : e.stp.2 = true := ed
      rw [ed2, if_pos rfl] at ha
      rw [ed2, if_pos rfl, if_pos rfl]
      have := tapped_none ha
      rw [hk] at this
      dsimp only
      rw [this]
      exact ⟨rfl, rfl⟩
    | false =>
      have ed2 : e.stp.2 = false := ed
      rw [ed2, if_neg (by decide), if_neg (by decide)]
      exact ⟨rfl, rfl⟩
  exact run_step h hw hs.1 hs.2
theorem run_turn {L : Lay} {R : List Ev} {n : Nat} {e : Ev} {w : Wy} (h : R[n]? = some e) (hw : Run L R n w) {q : Nat} {t : Int} (ha : mAsked L (R.map Ev.stp) n e.stp w.pl = some (q, t)) {tap : Bool} (ht : tap = decide (tickAt R q - tickAt R n < t)) {bs : List Bd} {ts : List Int} {ch : List PySem.Str} : Run L R (n + 1) ⟨(mDown L w.pl e.stp.1 tap).2, bs, ts, ch, w.res ++ [(mDown L w.pl e.stp.1 tap).1]⟩ := by
  have hk := key_at h
  obtain ⟨h1, _, _, l, c, hh, r, hl, hd, he⟩ := asked_facts ha
  rw [hk] at hl
  have hs : (mDown L w.pl e.stp.1 tap).2 = (step1 L R n w.pl e).2 ∧ (mDown L w.pl e.stp.1 tap).1 = (step1 L R n w.pl e).1.2 := by
    unfold step1
    have h1' : e.dn = true := h1
    rw [h1', if_pos rfl]
    dsimp only
    rw [hl]
    dsimp only
    rw [tapped_dual hd he, ht]
    exact ⟨rfl, rfl⟩
  exact run_step h hw hs.1 hs.2
theorem asked_margin {L : Lay} {R : List Ev} {n : Nat} {e : Ev} {w : Wy} (h : R[n]? = some e) (hw : Run L R n w) {q : Nat} {t : Int} (ha : mAsked L (R.map Ev.stp) n e.stp w.pl = some (q, t)) : (if tickAt R q - tickAt R n < t then (t - 1 - (tickAt R q - tickAt R n)).fdiv 2 else (tickAt R q - tickAt R n - t).fdiv 2) ∈ mMargins L R := by
  have hk := key_at h
  obtain ⟨h1, _, _, l, c, hh, r, hl, hd, he⟩ := asked_facts ha
  rw [hk, hw.pl] at hl
  refine List.mem_filterMap.mpr ⟨_, step_in h, ?_⟩
  have h1' : e.dn = true := h1
  unfold step1
  rw [h1', if_pos rfl]
  dsimp only
  rw [hl]
  unfold marginOf
  dsimp only
  rw [hd]
  dsimp only
  rw [if_pos he]
theorem order_range (R : List Ev) : orderOf R (List.range R.length) = R.map Ev.stp := by
  unfold orderOf
  refine List.ext_getElem (by simp) fun i h1 h2 => ?_
  rw [List.getElem_map, List.getElem_map, List.getElem_range, getD_of (List.getElem?_eq_getElem (by simpa using h1))]
theorem stp_at {R : List Ev} {n : Nat} {s : Stp} (h : (R.map Ev.stp)[n]? = some s) : ∃ e, R[n]? = some e ∧ s = e.stp := by
  rw [List.getElem?_map] at h
  cases e : R[n]? with
  | none => rw [e] at h; cases h
  | some x => rw [e] at h; exact ⟨x, rfl, (Option.some.inj h).symm⟩
theorem range_at {n k : Nat} (h : k < n) : (List.range n)[k]? = some k := by
  rw [List.getElem?_eq_getElem (by rw [List.length_range]; exact h), List.getElem_range]
def Cond (L : Lay) (R : List Ev) (w : Wy) : Prop := ∀ m ∈ mMargins L R, w.ticks.getD (R.length + 1) 0 ≤ m
theorem own_next {L : Lay} {R : List Ev} {half : List Int} {n : Nat} {s : Stp} {w w' : Wy} (hs : (R.map Ev.stp)[n]? = some s) (h : WTk R half (List.range R.length) w ∧ (Cond L R w → Run L R n w)) (hm : w' ∈ nextWays L (R.map Ev.stp) n s w) : WTk R half (List.range R.length) w' ∧ (Cond L R w' → Run L R (n + 1) w') := by
  obtain ⟨e, he, rfl⟩ := stp_at hs
  have hn := get_lt he
  have hk := wtk_next (S := R.map Ev.stp) (by simp) (by simpa using hn) h.1 hm
  refine ⟨hk, fun hc => ?_⟩
  rcases next_cases hm with ⟨ha, rfl⟩ | ⟨q, t, tap, ts, ha, hl, rfl⟩
  · exact run_plain he (h.2 hc) ha
  · obtain ⟨_, _, hq, _⟩ := asked_facts ha
    rw [List.length_map] at hq
    have hle : w.ticks.getD (R.length + 1) 0 ≤ ts.getD (R.length + 1) 0 := lifted_le (fun b hb => by
      rw [h.1.tk.len]
      have := hk.bd b hb
      exact ⟨this.h1, this.h2⟩) hl _
    have hr := h.2 fun m hm => Int.le_trans hle (hc m hm)
    refine run_turn he hr ha ?_
    have hmg := hc _ (asked_margin he hr ha)
    have ln := wtk_late hk (range_at hn)
    have lq := wtk_late hk (range_at hq)
    have hb := hk.sat (pressBd tap n q t) (List.mem_append_right _ List.mem_cons_self)
    rw [List.length_range] at ln lq
    dsimp only at hmg ln lq hb
    have e1 : mOff R q - mOff R n = tickAt R q - tickAt R n := by unfold mOff; omega
    cases tap with
    | true =>
      have hb' : ts.getD q 0 + (1 - t) ≤ ts.getD n 0 := hb
      refine (decide_eq_true ?_).symm
      rcases Int.lt_or_le (tickAt R q - tickAt R n) t with z | z
      · exact z
      · rw [if_neg (by omega)] at hmg
        have := (fd2 (x := tickAt R q - tickAt R n - t) (by omega)).2
        omega
    | false =>
      have hb' : ts.getD n 0 + t ≤ ts.getD q 0 := hb
      refine (decide_eq_false ?_).symm
      intro z
      rw [if_pos z] at hmg
      have := (fd2 (x := t - 1 - (tickAt R q - tickAt R n)) (by omega)).2
      omega
theorem near_flat {L : Lay} {R : List Ev} (hR : R.Pairwise fun a b => a.tick ≤ b.tick) {half : List Int} {a : Arr} (h : a ∈ mArrivals L R half) (h1 : ∀ m ∈ nearL R half, a.least ≤ m) (h2 : ∀ m ∈ mMargins L R, a.least ≤ m) : a.outs = mFlat L R := by
  obtain ⟨row, hr, t, hl, w, hw, rfl⟩ := arr_cases h
  have hk := wtk_all hl w hw
  have er := row_own hR hr hk h1
  subst er
  rw [order_range] at hw
  have := waysGo_inv (I := fun n w => WTk R half (List.range R.length) w ∧ (Cond L R w → Run L R n w)) (fun n s w w' hn hi hm => own_next hn hi hm) (S' := R.map Ev.stp) (n := 0) rfl (fun w' hw' => by rw [List.mem_singleton.mp hw']; exact ⟨wtk_start hl, fun _ => ⟨rfl, rfl⟩⟩) w hw
  rw [List.length_map, Nat.zero_add] at this
  refine run_end (this.2 fun m hm => ?_)
  have := h2 m hm
  have e : (arrOf R (List.range R.length) w).least = w.ticks.getD (R.length + 1) 0 := by
    show w.ticks.getD ((List.range R.length).length + 1) 0 = _
    rw [List.length_range]
  rw [e] at this
  exact this
end HT8
end partM6
section partM7
set_option Elab.async false
set_option linter.all false
set_option maxRecDepth 100000
namespace HT8
open PySem PySem.Spec PyProof.Rows L2 HT5 HT6 HT7
/-! ### nobody late -/
theorem relaxAll_app : ∀ {A B : List Bd} {ns : List Int}, relaxAll ns (A ++ B) = relaxAll (relaxAll ns A) B
  | [], _, _ => rfl
  | b :: A, B, ns => relaxAll_app (A := A)
structure IsA (R : List Ev) (N k : Nat) (ns : List Int) : Prop where
  len : ns.length = N + 2
  at_ : ∀ i, ns.getD i 0 = if i < k then mOff R i else 0
section
variable {R : List Ev} {half : List Int} (hR : R.Pairwise fun a b => a.tick ≤ b.tick)
include hR
theorem off_nn {k : Nat} (hk : k < R.length) : 0 ≤ mOff R k := by
  have := asc_at hR (i := 0) (j := k) (Nat.zero_le _) hk
  unfold mOff; omega
theorem isA_step {k : Nat} (hk : k < R.length) {ns : List Int} (h : IsA R R.length k ns) : IsA R R.length (k + 1) (relaxAll ns (place2 R half R.length (k, k))) := by
  have hl : k < ns.length := by rw [h.len]; omega
  have o := off_nn hR hk
  have a1 : IsA R R.length (k + 1) (relax1 ns (R.length, k, mOff R k)) := by
    refine ⟨(relax1_len _ _).trans h.len, fun i => ?_⟩
    rw [relax1_get hl i]
    have e1 := h.at_ k
    have e2 := h.at_ R.length
    have e3 := h.at_ i
    rw [if_neg (by omega)] at e1 e2
    dsimp only
    rw [e1, e2, e3]
    by_cases hi : i = k
    · subst hi
      rw [if_pos (by omega : i < i + 1), if_neg (Nat.lt_irrefl i)]
      split <;> omega
    · rw [if_neg (fun q => hi q.1)]
      by_cases h2 : i < k
      · rw [if_pos h2, if_pos (by omega)]
      · rw [if_neg h2, if_neg (by omega)]
  show IsA R R.length (k + 1) (relax1 (relax1 ns (R.length, k, mOff R k)) (k, (if inHalf half R k then R.length + 1 else R.length), - mOff R k))
  rw [relax1_sat]
  · exact a1
  · have e1 := a1.at_ k
    rw [if_pos (by omega)] at e1
    have e2 : ∀ j, k + 1 ≤ j → (relax1 ns (R.length, k, mOff R k)).getD j 0 = 0 := fun j hj => by
      rw [a1.at_ j, if_neg (by omega)]
    dsimp only
    rw [e1]
    split
    · rw [e2 _ (by omega)]; omega
    · rw [e2 _ (by omega)]; omega
theorem isA_all : ∀ {j k : Nat}, k + j = R.length → ∀ {ns : List Int}, IsA R R.length k ns → IsA R R.length R.length (relaxAll ns ((enumL k ((List.range R.length).drop k)).flatMap (place2 R half R.length)))
  | 0, k, e, ns, h => by
    have : (List.range R.length).drop k = [] := List.drop_eq_nil_of_le (by rw [List.length_range]; omega)
    rw [this]
    have e' : k = R.length := by omega
    rw [e'] at h
    exact h
  | j + 1, k, e, ns, h => by
    have : (List.range R.length).drop k = k :: (List.range R.length).drop (k + 1) := by
      rw [List.drop_eq_getElem_cons (by rw [List.length_range]; omega), List.getElem_range]
    rw [this]
    show IsA R R.length R.length (relaxAll ns (((k, k) :: enumL (k + 1) ((List.range R.length).drop (k + 1))).flatMap (place2 R half R.length)))
    rw [List.flatMap_cons, relaxAll_app]
    exact isA_all (j := j) (by omega) (isA_step hR (by omega) h)
theorem isA_sat {t : List Int} (h : IsA R R.length R.length t) : Sat t (arrBounds R half (List.range R.length)) := fun b hb => by
  have z : ∀ j, R.length ≤ j → t.getD j 0 = 0 := fun j hj => by rw [h.at_ j, if_neg (by omega)]
  have o : ∀ j, j < R.length → t.getD j 0 = mOff R j := fun j hj => by rw [h.at_ j, if_pos hj]
  rcases List.mem_append.mp hb with hb | hb
  · obtain ⟨p, hp, rfl⟩ := List.mem_map.mp hb
    have hp' := List.mem_range.mp hp
    rw [List.length_range] at hp'
    dsimp only
    rw [o p (by omega), o (p + 1) (by omega), getD_of (range_at (show p < R.length by omega)), getD_of (range_at (show p + 1 < R.length by omega)), if_neg (by omega)]
    have := asc_at hR (i := p) (j := p + 1) (by omega) (by omega)
    unfold mOff; omega
  · obtain ⟨⟨p, n⟩, hp, hb⟩ := List.mem_flatMap.mp hb
    obtain ⟨j, e, hj⟩ := enumL_mem.mp hp
    have e' : p = j := by omega
    subst e'
    have hlt := get_lt hj
    rw [List.length_range] at hlt
    rw [range_at hlt] at hj
    have : p = n := Option.some.inj hj
    subst this
    rcases List.mem_cons.mp hb with rfl | hb
    · dsimp only
      rw [List.length_range, o p hlt, z _ (Nat.le_refl _)]; omega
    · rw [List.mem_singleton.mp hb]
      dsimp only
      rw [o p hlt, List.length_range]
      split
      · rw [z _ (by omega)]; omega
      · rw [z _ (by omega)]; omega
theorem lift_zero : ∃ t, mLifted (arrBounds R half (List.range R.length)) (List.replicate ((List.range R.length).length + 2) 0) = some t ∧ IsA R R.length R.length t := by
  have z : ∀ i, (List.replicate ((List.range R.length).length + 2) (0 : Int)).getD i 0 = 0 := fun i => by
    rw [List.getD_eq_getElem?_getD, List.getElem?_replicate]
    split <;> rfl
  have h0 : IsA R R.length 0 (List.replicate ((List.range R.length).length + 2) 0) := ⟨by rw [List.length_replicate, List.length_range], fun i => by rw [z, if_neg (by omega)]⟩
  have hc : Sat (List.replicate ((List.range R.length).length + 2) 0) (mChain (List.range R.length)) := fun b hb => by
    obtain ⟨p, hp, rfl⟩ := List.mem_map.mp hb
    have hp' := List.mem_range.mp hp
    rw [List.length_range] at hp'
    dsimp only
    rw [z, z, getD_of (range_at (show p < R.length by omega)), getD_of (range_at (show p + 1 < R.length by omega)), if_neg (by omega)]
    decide
  have h1 : IsA R R.length R.length (relaxAll (List.replicate ((List.range R.length).length + 2) 0) (arrBounds R half (List.range R.length))) := by
    unfold arrBounds
    rw [relaxAll_app, relaxAll_sat hc]
    have := isA_all hR (half := half) (j := R.length) (k := 0) (by omega) h0
    rw [List.drop_zero] at this
    rw [show (List.range R.length).length = R.length from List.length_range] at this ⊢
    exact this
  have hs := isA_sat hR (half := half) h1
  refine ⟨_, ?_, h1⟩
  unfold mLifted
  rw [List.length_replicate]
  rw [liftGo]
  split
  · rw [liftGo, raises_false.mpr hs, if_neg (by decide), relaxAll_sat hs]
  · rfl
theorem zero_next {L : Lay} {t : List Int} (ht : IsA R R.length R.length t) {n : Nat} {s : Stp} {w : Wy} (hs : (R.map Ev.stp)[n]? = some s) (h : w.ticks = t ∧ Sat t w.bounds ∧ Run L R n w) : ∃ w' ∈ nextWays L (R.map Ev.stp) n s w, w'.ticks = t ∧ Sat t w'.bounds ∧ Run L R (n + 1) w' := by
  obtain ⟨e, he, rfl⟩ := stp_at hs
  have hn := get_lt he
  have o : ∀ j, j < R.length → t.getD j 0 = mOff R j := fun j hj => by rw [ht.at_ j, if_pos hj]
  obtain ⟨h1, h2, h3⟩ := h
  unfold nextWays
  cases ha : mAsked L (R.map Ev.stp) n e.stp w.pl with
  | none => exact ⟨_, List.mem_singleton.mpr rfl, h1, h2, run_plain he h3 ha⟩
  | some x =>
    obtain ⟨q, tt⟩ := x
    dsimp only
    obtain ⟨_, _, hq, _⟩ := asked_facts ha
    rw [List.length_map] at hq
    have e1 : mOff R q - mOff R n = tickAt R q - tickAt R n := by unfold mOff; omega
    have hb : Sat t (w.bounds ++ [pressBd (decide (tickAt R q - tickAt R n < tt)) n q tt]) := fun b hb => by
      rcases List.mem_append.mp hb with z | z
      · exact h2 b z
      · rw [List.mem_singleton.mp z]
        by_cases c : tickAt R q - tickAt R n < tt
        · rw [decide_eq_true c]
          show t.getD q 0 + (1 - tt) ≤ t.getD n 0
          rw [o q hq, o n hn]; omega
        · rw [decide_eq_false c]
          show t.getD n 0 + tt ≤ t.getD q 0
          rw [o q hq, o n hn]; omega
    refine ⟨⟨(mDown L w.pl e.stp.1 (decide (tickAt R q - tickAt R n < tt))).2, w.bounds ++ [pressBd (decide (tickAt R q - tickAt R n < tt)) n q tt], t, w.choice ++ [tapS (decide (tickAt R q - tickAt R n < tt))], w.res ++ [(mDown L w.pl e.stp.1 (decide (tickAt R q - tickAt R n < tt))).1]⟩, List.mem_filterMap.mpr ⟨decide (tickAt R q - tickAt R n < tt), ?_, ?_⟩, rfl, hb, run_turn he h3 ha rfl⟩
    · cases decide (tickAt R q - tickAt R n < tt) <;> simp
    · unfold mTurned
      rw [h1, lifted_self hb]
theorem arr_zero {L : Lay} : ∃ a ∈ mArrivals L R half, a.least = 0 ∧ a.outs = mFlat L R := by
  obtain ⟨t, hl, ht⟩ := lift_zero hR (half := half)
  obtain ⟨w, hw, h1, _, h3⟩ := waysGo_some (L := L) (S := R.map Ev.stp) (I := fun n w => w.ticks = t ∧ Sat t w.bounds ∧ Run L R n w) (fun n s w hs h => zero_next hR ht hs h) (S' := R.map Ev.stp) (n := 0) (ws := [⟨pl0, arrBounds R half (List.range R.length), t, [], []⟩]) rfl ⟨_, List.mem_singleton.mpr rfl, rfl, isA_sat hR ht, ⟨rfl, rfl⟩⟩
  rw [List.length_map, Nat.zero_add] at h3
  refine ⟨arrOf R (List.range R.length) w, List.mem_flatMap.mpr ⟨_, range_row R half, ?_⟩, ?_, run_end h3⟩
  · unfold rowArr
    rw [hl]
    dsimp only
    rw [order_range]
    exact List.mem_map.mpr ⟨w, hw, rfl⟩
  · show w.ticks.getD ((List.range R.length).length + 1) 0 = 0
    rw [h1, List.length_range, ht.at_, if_neg (by omega)]
end
/-! ### what is pressed -/
def zzS : PySem.Str := "zz"
def WtNoZ : Wt → Prop
  | .code c => c ≠ zzS
  | _ => True
def AcNoZ : Ac → Prop
  | .w x => WtNoZ x
  | .dual c h _ _ => c ≠ zzS ∧ WtNoZ h
  | _ => True
def NoZ (L : Lay) : Prop := ∀ r ∈ L, ∀ a ∈ r, AcNoZ a
theorem look_noz {L : Lay} (h : NoZ L) (p : Pl) (k : Int) : AcNoZ (mLook L p k).2 := by
  have hd : ∀ l : List (Nat × Ac), (∀ x ∈ l, AcNoZ x.2) → AcNoZ (l.getLastD (0, .non)).2 := fun l hl => by
    rw [List.getLastD_eq_getLast?]
    cases e : l.getLast? with
    | none => trivial
    | some x => exact hl x (List.mem_of_getLast? e)
  refine hd _ fun x hx => ?_
  obtain ⟨l, _, rfl⟩ := List.mem_map.mp (List.mem_filter.mp hx).1
  show AcNoZ (actAt L l k)
  unfold actAt
  rw [List.getD_eq_getElem?_getD]
  cases e : (L.getD l [])[k.toNat]? with
  | none => trivial
  | some a =>
    have ha := List.mem_of_getElem? e
    rw [List.getD_eq_getElem?_getD] at ha
    cases e2 : L[l]? with
    | none => rw [e2] at ha; cases ha
    | some r => rw [e2] at ha; exact h r (List.mem_of_getElem? e2) a ha
theorem carried_noz {a : Ac} {tap : Bool} (h : AcNoZ a) : AcNoZ (mCarried a tap) := by
  cases a with
  | dual c hh t r =>
    cases tap
    · exact h.2
    · exact h.1
  | non => exact h
  | thr => exact h
  | w x => exact h
def OutNoZ (o : Out) : Prop := o ≠ some (true, zzS)
theorem do_noz {p : Pl} {k : Int} {a : Ac} (h : AcNoZ a) : OutNoZ (doWhat p k a).1 := by
  cases a with
  | w x =>
    cases x with
    | code c =>
      intro e
      have : (some (true, c) : Out) = some (true, zzS) := e
      exact h (Prod.mk.inj (Option.some.inj this)).2
    | lay j => exact nofun
    | lock j => exact nofun
    | once j => exact nofun
  | dual c hh t r => exact nofun
  | non => exact nofun
  | thr => exact nofun
theorem down_noz {L : Lay} (h : NoZ L) (p : Pl) (k : Int) (tap : Bool) : OutNoZ (mDown L p k tap).1 := do_noz (carried_noz (look_noz h p k))
theorem up_noz (p : Pl) (k : Int) : OutNoZ (mUp p k).1 := by
  show OutNoZ (outOf (p.bound.lookup k))
  unfold outOf
  split
  · intro e
    cases e
  · exact nofun
theorem plain_noz {L : Lay} (h : NoZ L) (p : Pl) (s : Stp) : OutNoZ (mPlain L p s).1 := by
  unfold mPlain
  split
  · exact down_noz h _ _ _
  · exact up_noz _ _
theorem arr_noz {L : Lay} (h : NoZ L) {R : List Ev} {half : List Int} {a : Arr} (ha : a ∈ mArrivals L R half) : ∀ o ∈ a.outs, OutNoZ o := by
  obtain ⟨row, hr, t, hl, w, hw, rfl⟩ := arr_cases ha
  have := waysGo_inv (I := fun _ w => ∀ o ∈ w.res, OutNoZ o) (fun n s w w' hn hi hm => by
    rcases next_cases hm with ⟨_, rfl⟩ | ⟨q, t, tap, ts, ha, hl, rfl⟩
    · intro o ho
      rcases List.mem_append.mp (show o ∈ w.res ++ [(mPlain L w.pl s).1] from ho) with z | z
      · exact hi o z
      · rw [List.mem_singleton.mp z]; exact plain_noz h _ _
    · intro o ho
      rcases List.mem_append.mp (show o ∈ w.res ++ [(mDown L w.pl s.1 tap).1] from ho) with z | z
      · exact hi o z
      · rw [List.mem_singleton.mp z]; exact down_noz h _ _ _) (S' := orderOf R row) (n := 0) rfl (fun w' hw' => by rw [List.mem_singleton.mp hw']; exact nofun) w hw
  intro o ho
  exact this o (List.mem_filter.mp ho).1
theorem arr_zz {L : Lay} (h : NoZ L) {R : List Ev} {half : List Int} {a : Arr} (ha : a ∈ mArrivals L R half) : a.outs ≠ mFlat L R ++ [(some (true, ("zz" : PySem.Str)) : Out)] := fun e =>
  arr_noz h ha (some (true, zzS)) (by rw [e]; exact List.mem_append_right _ List.mem_cons_self) rfl
/-! ### how many -/
def cntF : Nat → Nat → Nat → Nat
  | 0, _, _ => 1
  | _ + 1, 0, _ => 1
  | _ + 1, _ + 1, 0 => 1
  | f + 1, a + 1, b + 1 => cntF f a (b + 1) + cntF f (a + 1) b
theorem merge_cnt : ∀ {f : Nat} {a b : List Nat}, (mergeF f a b).length = cntF f a.length b.length
  | 0, _, _ => rfl
  | _ + 1, [], _ => rfl
  | _ + 1, _ :: _, [] => rfl
  | f + 1, a :: as, b :: bs => by
    show ((mergeF f as (b :: bs)).map (a :: ·) ++ (mergeF f (a :: as) bs).map (b :: ·)).length = cntF f as.length (bs.length + 1) + cntF f (as.length + 1) bs.length
    rw [List.length_append, List.length_map, List.length_map, merge_cnt, merge_cnt]
    rfl
theorem cnt6 : ∀ a < 5, ∀ b < 5, a + b ≤ 4 → cntF (a + b) a b ≤ 6 := by decide +kernel
theorem rows6 {R : List Ev} {half : List Int} (h : R.length ≤ 4) : (rowsOf R half).length ≤ 6 := by
  have e := two_len (inHalf half R) (List.range R.length)
  have e2 : (hereOf R half).length + (thereOf R half).length = R.length := by simpa [hereOf, thereOf] using e
  unfold HT6.rowsOf
  rw [merge_cnt]
  exact cnt6 _ (by omega) _ (by omega) (by omega)
theorem next_last {L : Lay} {S : List Stp} {n : Nat} {s : Stp} {w : Wy} (h : S.length ≤ n + 1) : (nextWays L S n s w).length ≤ 1 := by
  unfold nextWays
  cases ha : mAsked L S n s w.pl with
  | none => exact Nat.le_refl _
  | some x =>
    obtain ⟨q, t⟩ := x
    obtain ⟨_, h1, h2, _⟩ := asked_facts ha
    omega
theorem waysGo_le1 (L : Lay) (S : List Stp) : ∀ (S' : List Stp) (n : Nat) (ws : List Wy), n + S'.length = S.length → (waysGo L S n ws S').length ≤ ws.length * 2 ^ (S'.length - 1)
  | [], n, ws, _ => by simp [waysGo]
  | [s], n, ws, e => by
    have := flatMap_le (nextWays L S n s) 1 ws fun w _ => next_last (by simp at e; omega)
    show (ws.flatMap (nextWays L S n s)).length ≤ ws.length * 2 ^ 0
    omega
  | s :: s' :: r, n, ws, e => by
    have h1 := waysGo_le1 L S (s' :: r) (n + 1) (ws.flatMap (nextWays L S n s)) (by simp only [List.length_cons] at e ⊢; omega)
    have h2 := flatMap_le (nextWays L S n s) 2 ws fun w _ => next_le L S n s w
    show (waysGo L S (n + 1) (ws.flatMap (nextWays L S n s)) (s' :: r)).length ≤ ws.length * 2 ^ (r.length + 1)
    rw [Nat.pow_succ]
    refine Nat.le_trans h1 ?_
    rw [show ws.length * (2 ^ r.length * 2) = ws.length * 2 * 2 ^ r.length by rw [Nat.mul_comm (2 ^ r.length) 2, Nat.mul_assoc]]
    exact Nat.mul_le_mul_right _ h2
theorem arr_few {L : Lay} {R : List Ev} {half : List Int} (h : R.length ≤ 4) : (mArrivals L R half).length ≤ 62 := by
  have h1 := rows6 (half := half) h
  have h2 := flatMap_le (rowArr L R half) 8 (rowsOf R half) fun row hr => rowArr_le 8 fun t => by
    have h4 : (orderOf R row).length = R.length := by rw [order_len]; exact (row_ok hr).1
    have h3 := waysGo_le1 L (orderOf R row) (orderOf R row) 0 [⟨pl0, arrBounds R half row, t, [], []⟩] (by omega)
    rw [h4] at h3
    refine Nat.le_trans h3 ?_
    have : 2 ^ (R.length - 1) ≤ 2 ^ 3 := Nat.pow_le_pow_right (by decide) (by omega)
    show 1 * 2 ^ (R.length - 1) ≤ 8
    omega
  unfold mArrivals
  omega
/-! ### all together -/
theorem sound4 {L : Lay} {R : List Ev} {half : List Int} (hR : R.Pairwise fun a b => a.tick ≤ b.tick) (hz : NoZ L) (h4 : R.length ≤ 4) : Sound L R half where
  zero := arr_zero hR
  pos := fun a ha => by
    obtain ⟨row, _, w, hw, rfl⟩ := arr_wtk ha
    exact hw.tk.nn _
  dly := fun a ha => arr_dly ha
  near := fun a ha hne => by
    by_cases h1 : ∃ m ∈ nearL R half, m < a.least
    · exact .inl h1
    · by_cases h2 : ∃ m ∈ mMargins L R, m < a.least
      · exact .inr h2
      · exact absurd (near_flat hR ha (fun m hm => Int.not_lt.mp fun q => h1 ⟨m, hm, q⟩) fun m hm => Int.not_lt.mp fun q => h2 ⟨m, hm, q⟩) hne
  n0 := near_nn hR
  m0 := margin_nn
  zz := fun a ha => arr_zz hz ha
  cnt := arr_few h4
/-! ### the drawn cases -/
theorem code_noz (d : Int) : codeAt d ≠ zzS := by
  have h : ∀ c ∈ codesL, c ≠ zzS := by
    intro c hc
    simp only [codesL, List.mem_cons, List.not_mem_nil, or_false] at hc
    rcases hc with rfl | rfl | rfl | rfl | rfl | rfl <;> decide +kernel
  unfold codeAt
  rw [List.getD_eq_getElem?_getD]
  cases e : codesL[d.toNat]? with
  | none => exact h "a" (by simp [codesL])
  | some c => exact h c (List.mem_of_getElem? e)
theorem act_noz (p : Po) (layer deep : Nat) (top often : Int) : AcNoZ (mAction p layer deep top often).1 := by
  unfold mAction
  dsimp only
  split
  · refine ⟨code_noz _, ?_⟩
    unfold actHold
    split
    · split
      · trivial
      · exact code_noz _
    · exact code_noz _
  · unfold actPlain
    dsimp only
    split
    · show WtNoZ _
      unfold wordW
      split
      · trivial
      · split <;> trivial
    · split
      · trivial
      · split
        · trivial
        · exact code_noz _
theorem row_noz {layer deep : Nat} {top often : Int} (p : Po) : ∀ n, ∀ a ∈ (mRow layer deep top often p n).1, AcNoZ a
  | 0 => fun _ h => by cases h
  | n + 1 => fun a ha => by
    rcases List.mem_append.mp (show a ∈ (mRow layer deep top often p n).1 ++ [_] from ha) with h | h
    · exact row_noz p n a h
    · rw [List.mem_singleton.mp h]; exact act_noz _ _ _ _ _
theorem lays_noz {many deep : Nat} {top often : Int} (p : Po) : ∀ n, NoZ (mLays many deep top often p n).1
  | 0 => fun _ h => by cases h
  | n + 1 => fun r hr => by
    rcases List.mem_append.mp (show r ∈ (mLays many deep top often p n).1 ++ [_] from hr) with h | h
    · exact lays_noz p n r h
    · rw [List.mem_singleton.mp h]; exact row_noz _ _
theorem case_sound (p : Po) {wide tall top size : Int} (hw : 1 ≤ wide ∧ wide ≤ 16) (ht : 1 ≤ tall ∧ tall ≤ 6) (hp : 1 ≤ top ∧ top ≤ 1000000) (hs : 1 ≤ size ∧ size ≤ 4) : Sound (mCase p wide tall top size).L (mCase p wide tall top size).R (mCase p wide tall top size).half := by
  unfold mCase
  dsimp only
  have hz : NoZ (mLayout (mDraw p 3).2 wide tall top (mOften (mDraw p 3).1)).1 := lays_noz _ _
  obtain ⟨hL, _⟩ := layout_facts (p := (mDraw p 3).2) (often := mOften (mDraw p 3).1) hw ht hp.1 hp.2
  generalize mLayout (mDraw p 3).2 wide tall top (mOften (mDraw p 3).1) = y at hz hL ⊢
  have i2 := draw_in y.2 (m := size + 1) (by omega)
  generalize mDraw y.2 (size + 1) = d2 at i2 ⊢
  generalize mDraw d2.2 2 = d3
  have hmy : (mMany size d2.1 d3.1).toNat ≤ 4 := by
    unfold mMany
    split
    · split <;> omega
    · omega
  have hwd : 1 ≤ mWide y.1 := hL.w1
  have hOk := ord_ok (many := min 4 (mWide y.1 : Int)) (by omega) d3.2 (mMany size d2.1 d3.1).toNat
  generalize mOrd (min 4 (mWide y.1 : Int)) d3.2 (mMany size d2.1 d3.1).toNat = o at hOk ⊢
  have hwt : 0 < (if (mDraw o.po 2).1 = 0 then 5 else top) := by split <;> omega
  have hTm := timed_ok hwt (mDraw o.po 2).2 o.fs
  generalize mTimed (mDraw o.po 2).2 o.fs (if (mDraw o.po 2).1 = 0 then 5 else top) = t at hTm ⊢
  refine sound4 hTm.asc hz ?_
  have : t.es.length = o.fs.length := by rw [← hTm.stp, List.length_map]
  rw [this, hOk.len]
  exact hmy
/-- all that the walk of the law asks -/
theorem sound_all (ns : List Int) : ∀ at_ i, at_ < max 1 (min 2 ns.length) → i < 3 → Sound (theCase ns at_ i).L (theCase ns at_ i).R (theCase ns at_ i).half := fun at_ i ha hi => by
  by_cases h : ns = [] ∧ i = 0
  · obtain ⟨rfl, rfl⟩ := h
    have : at_ = 0 := by simp at ha; omega
    subst this
    exact sound0
  · unfold theCase
    have hc : (1 ≤ (caseAt ns i).1 ∧ (caseAt ns i).1 ≤ 16) ∧ (1 ≤ (caseAt ns i).2.1 ∧ (caseAt ns i).2.1 ≤ 6) ∧ (1 ≤ (caseAt ns i).2.2.1 ∧ (caseAt ns i).2.2.1 ≤ 1000000) ∧ (1 ≤ (caseAt ns i).2.2.2 ∧ (caseAt ns i).2.2.2 ≤ 4) := by
      have hi3 : i = 0 ∨ i = 1 ∨ i = 2 := by omega
      rcases hi3 with rfl | rfl | rfl
      · have hne : ns ≠ [] := fun q => h ⟨q, rfl⟩
        have e : caseAt ns 0 = (4, 3, 9, 4) := by
          unfold caseAt
          rw [if_pos rfl, if_neg hne]
        rw [e]
        decide
      · have e : caseAt ns 1 = (16, 6, 1000000, 4) := rfl
        rw [e]
        decide
      · have e : caseAt ns 2 = (3, 2, 4, 3) := rfl
        rw [e]
        decide
    exact case_sound _ hc.1 hc.2.1 hc.2.2.1 hc.2.2.2
end HT8
end partM7
section partJ1
set_option Elab.async false
set_option linter.all false
set_option maxRecDepth 100000
set_option maxHeartbeats 4000000
namespace HT8
open PySem PySem.Spec PyProof.Rows L2 HT5 HT6 HT7
theorem all_mk {P : Program} {w : World} {K : PySem.W.Frag} {h : Heap} {mg : Str → Option Value} {fa CP CW rR f1 f2 f3 f4 f5 f6 f7 f8 f9 f10 f11 f12 f13 f14 f15 f16 f17 f18 f19 f20 f21 f22 f23 f24 f25 f26 f27 f28 f29 f30 f31 f32 f33 f34 f35 f36 f37 f38 f39 f40 f41 f42 f43 f44 f45 f46 f47 f48 f49 f50 f51 f52 f53 f54 f55 : Addr} {itR : Array Value} {nR : Nat} (X : K.In h) (G : h.Ns mainGlobals mg) (hfa : mg "law" = some (.ref fa))
    {odR od1 an1 od2 an2 od3 an3 od4 an4 od5 an5 od6 an6 od7 an7 od8 an8 od9 an9 od10 an10 od11 an11 od12 an12 od13 an13 od14 an14 od15 an15 od16 an16 od17 an17 od18 an18 od19 an19 od20 an20 od21 an21 od22 an22 od23 an23 od24 an24 od25 an25 od26 an26 od27 an27 od28 an28 od29 an29 od30 an30 od31 an31 od32 an32 od33 an33 od34 an34 od35 an35 od36 an36 od37 an37 od38 an38 od39 an39 od40 an40 od41 an41 od42 an42 od43 an43 od44 an44 od45 an45 od46 an46 od47 an47 od48 an48 od49 an49 od50 an50 od51 an51 od52 an52 od53 an53 od54 an54 od55 an55 : Option Addr} {slR sl1 sl2 sl3 sl4 sl5 sl6 sl7 sl8 sl9 sl10 sl11 sl12 sl13 sl14 sl15 sl16 sl17 sl18 sl19 sl20 sl21 sl22 sl23 sl24 sl25 sl26 sl27 sl28 sl29 sl30 sl31 sl32 sl33 sl34 sl35 sl36 sl37 sl38 sl39 sl40 sl41 sl42 sl43 sl44 sl45 sl46 sl47 sl48 sl49 sl50 sl51 sl52 sl53 sl54 sl55 : Array (Option Value)} {oc1 kV1 dc1 pm1 cd1 ct1 oc2 kV2 dc2 pm2 cd2 ct2 oc3 kV3 dc3 pm3 cd3 ct3 oc4 kV4 dc4 pm4 cd4 ct4 oc5 kV5 dc5 pm5 cd5 ct5 oc6 kV6 dc6 pm6 cd6 ct6 oc7 kV7 dc7 pm7 cd7 ct7 oc8 kV8 dc8 pm8 cd8 ct8 oc9 kV9 dc9 pm9 cd9 ct9 oc10 kV10 dc10 pm10 cd10 ct10 oc11 kV11 dc11 pm11 cd11 ct11 oc12 kV12 dc12 pm12 cd12 ct12 oc13 kV13 dc13 pm13 cd13 ct13 oc14 kV14 dc14 pm14 cd14 ct14 oc15 kV15 dc15 pm15 cd15 ct15 oc16 kV16 dc16 pm16 cd16 ct16 oc17 kV17 dc17 pm17 cd17 ct17 oc18 kV18 dc18 pm18 cd18 ct18 oc19 kV19 dc19 pm19 cd19 ct19 oc20 kV20 dc20 pm20 cd20 ct20 oc21 kV21 dc21 pm21 cd21 ct21 oc22 kV22 dc22 pm22 cd22 ct22 oc23 kV23 dc23 pm23 cd23 ct23 oc24 kV24 dc24 pm24 cd24 ct24 oc25 kV25 dc25 pm25 cd25 ct25 oc26 kV26 dc26 pm26 cd26 ct26 oc27 kV27 dc27 pm27 cd27 ct27 oc28 kV28 dc28 pm28 cd28 ct28 oc29 kV29 dc29 pm29 cd29 ct29 oc30 kV30 dc30 pm30 cd30 ct30 oc31 kV31 dc31 pm31 cd31 ct31 oc32 kV32 dc32 pm32 cd32 ct32 oc33 kV33 dc33 pm33 cd33 ct33 oc34 kV34 dc34 pm34 cd34 ct34 oc35 kV35 dc35 pm35 cd35 ct35 oc36 kV36 dc36 pm36 cd36 ct36 oc37 kV37 dc37 pm37 cd37 ct37 oc38 kV38 dc38 pm38 cd38 ct38 oc39 kV39 dc39 pm39 cd39 ct39 oc40 kV40 dc40 pm40 cd40 ct40 oc41 kV41 dc41 pm41 cd41 ct41 oc42 kV42 dc42 pm42 cd42 ct42 oc43 kV43 dc43 pm43 cd43 ct43 oc44 kV44 dc44 pm44 cd44 ct44 oc45 kV45 dc45 pm45 cd45 ct45 oc46 kV46 dc46 pm46 cd46 ct46 oc47 kV47 dc47 pm47 cd47 ct47 oc48 kV48 dc48 pm48 cd48 ct48 oc49 kV49 dc49 pm49 cd49 ct49 oc50 kV50 dc50 pm50 cd50 ct50 oc51 kV51 dc51 pm51 cd51 ct51 oc52 kV52 dc52 pm52 cd52 ct52 oc53 kV53 dc53 pm53 cd53 ct53 oc54 kV54 dc54 pm54 cd54 ct54 oc55 kV55 dc55 pm55 cd55 ct55 : Value}
    (aCP : PySem.W.nsIn K mainGlobals "Player" = some (some (.ref CP))) (pgCP : PySem.W.plainGet K CP Str.empty = true) (hdCP : PySem.W.hasDictIn K CP = true) (poCP : PySem.W.plainOver K CP = true) (saCP : PySem.W.findIn K (.ref CP) "__setattr__" = some (some (.builtin "object.__setattr__"))) (mkCP : PySem.W.makesIn K CP = true) (kcCP : PySem.W.keepIn K (.ref CP) = true)
    (nCP0 : PySem.W.findIn K (.ref CP) "kept_layout" = some none) (nCP1 : PySem.W.findIn K (.ref CP) "kept_locked" = some none) (nCP2 : PySem.W.findIn K (.ref CP) "kept_waiting" = some none) (nCP3 : PySem.W.findIn K (.ref CP) "kept_bound" = some none)
    (aCW : PySem.W.nsIn K mainGlobals "Way" = some (some (.ref CW))) (pgCW : PySem.W.plainGet K CW Str.empty = true) (hdCW : PySem.W.hasDictIn K CW = true) (poCW : PySem.W.plainOver K CW = true) (saCW : PySem.W.findIn K (.ref CW) "__setattr__" = some (some (.builtin "object.__setattr__"))) (mkCW : PySem.W.makesIn K CW = true) (kcCW : PySem.W.keepIn K (.ref CW) = true)
    (nCW0 : PySem.W.findIn K (.ref CW) "kept_player" = some none) (nCW1 : PySem.W.findIn K (.ref CW) "kept_bounds" = some none) (nCW2 : PySem.W.findIn K (.ref CW) "kept_ticks" = some none) (nCW3 : PySem.W.findIn K (.ref CW) "kept_choice" = some none) (nCW4 : PySem.W.findIn K (.ref CW) "kept_result" = some none)
    (a1 : PySem.W.nsIn K mainGlobals "is_integer" = some (some (.ref f1)))
    (l1 : K.lookup f1 = some ⟨oc1, od1, .func (PySem.W.fnOf "is_integer" "is_integer" (defArgs sis_integer) (defBody sis_integer) (defScope sis_integer) .none kV1 dc1 pm1 an1 cd1 ct1), sl1⟩) (c1 : PySem.W.codeIn K cd1 "is_integer" = true) (k1 : PySem.W.keepIn K (.ref f1) = true)
    (a2 : PySem.W.nsIn K mainGlobals "is_code" = some (some (.ref f2)))
    (l2 : K.lookup f2 = some ⟨oc2, od2, .func (PySem.W.fnOf "is_code" "is_code" (defArgs sis_code) (defBody sis_code) (defScope sis_code) .none kV2 dc2 pm2 an2 cd2 ct2), sl2⟩) (c2 : PySem.W.codeIn K cd2 "is_code" = true) (k2 : PySem.W.keepIn K (.ref f2) = true)
    (a3 : PySem.W.nsIn K mainGlobals "is_hold" = some (some (.ref f3)))
    (l3 : K.lookup f3 = some ⟨oc3, od3, .func (PySem.W.fnOf "is_hold" "is_hold" (defArgs sis_hold) (defBody sis_hold) (defScope sis_hold) .none kV3 dc3 pm3 an3 cd3 ct3), sl3⟩) (c3 : PySem.W.codeIn K cd3 "is_hold" = true) (k3 : PySem.W.keepIn K (.ref f3) = true)
    (a4 : PySem.W.nsIn K mainGlobals "is_dual" = some (some (.ref f4)))
    (l4 : K.lookup f4 = some ⟨oc4, od4, .func (PySem.W.fnOf "is_dual" "is_dual" (defArgs sis_dual) (defBody sis_dual) (defScope sis_dual) .none kV4 dc4 pm4 an4 cd4 ct4), sl4⟩) (c4 : PySem.W.codeIn K cd4 "is_dual" = true) (k4 : PySem.W.keepIn K (.ref f4) = true)
    (a5 : PySem.W.nsIn K mainGlobals "is_action" = some (some (.ref f5)))
    (l5 : K.lookup f5 = some ⟨oc5, od5, .func (PySem.W.fnOf "is_action" "is_action" (defArgs sis_action) (defBody sis_action) (defScope sis_action) .none kV5 dc5 pm5 an5 cd5 ct5), sl5⟩) (c5 : PySem.W.codeIn K cd5 "is_action" = true) (k5 : PySem.W.keepIn K (.ref f5) = true)
    (a6 : PySem.W.nsIn K mainGlobals "is_table" = some (some (.ref f6)))
    (l6 : K.lookup f6 = some ⟨oc6, od6, .func (PySem.W.fnOf "is_table" "is_table" (defArgs sis_table) (defBody sis_table) (defScope sis_table) .none kV6 dc6 pm6 an6 cd6 ct6), sl6⟩) (c6 : PySem.W.codeIn K cd6 "is_table" = true) (k6 : PySem.W.keepIn K (.ref f6) = true)
    (a7 : PySem.W.nsIn K mainGlobals "wrong_places" = some (some (.ref f7)))
    (l7 : K.lookup f7 = some ⟨oc7, od7, .func (PySem.W.fnOf "wrong_places" "wrong_places" (defArgs swrong_places) (defBody swrong_places) (defScope swrong_places) .none kV7 dc7 pm7 an7 cd7 ct7), sl7⟩) (c7 : PySem.W.codeIn K cd7 "wrong_places" = true) (k7 : PySem.W.keepIn K (.ref f7) = true)
    (a8 : PySem.W.nsIn K mainGlobals "require_layout" = some (some (.ref f8)))
    (l8 : K.lookup f8 = some ⟨oc8, od8, .func (PySem.W.fnOf "require_layout" "require_layout" (defArgs srequire_layout) (defBody srequire_layout) (defScope srequire_layout) .none kV8 dc8 pm8 an8 cd8 ct8), sl8⟩) (c8 : PySem.W.codeIn K cd8 "require_layout" = true) (k8 : PySem.W.keepIn K (.ref f8) = true)
    (a9 : PySem.W.nsIn K mainGlobals "wrong_step" = some (some (.ref f9)))
    (l9 : K.lookup f9 = some ⟨oc9, od9, .func (PySem.W.fnOf "wrong_step" "wrong_step" (defArgs swrong_step) (defBody swrong_step) (defScope swrong_step) .none kV9 dc9 pm9 an9 cd9 ct9), sl9⟩) (c9 : PySem.W.codeIn K cd9 "wrong_step" = true) (k9 : PySem.W.keepIn K (.ref f9) = true)
    (a10 : PySem.W.nsIn K mainGlobals "first_wrong_step" = some (some (.ref f10)))
    (l10 : K.lookup f10 = some ⟨oc10, od10, .func (PySem.W.fnOf "first_wrong_step" "first_wrong_step" (defArgs sfirst_wrong_step) (defBody sfirst_wrong_step) (defScope sfirst_wrong_step) .none kV10 dc10 pm10 an10 cd10 ct10), sl10⟩) (c10 : PySem.W.codeIn K cd10 "first_wrong_step" = true) (k10 : PySem.W.keepIn K (.ref f10) = true)
    (a11 : PySem.W.nsIn K mainGlobals "first_wrong_event" = some (some (.ref f11)))
    (l11 : K.lookup f11 = some ⟨oc11, od11, .func (PySem.W.fnOf "first_wrong_event" "first_wrong_event" (defArgs sfirst_wrong_event) (defBody sfirst_wrong_event) (defScope sfirst_wrong_event) .none kV11 dc11 pm11 an11 cd11 ct11), sl11⟩) (c11 : PySem.W.codeIn K cd11 "first_wrong_event" = true) (k11 : PySem.W.keepIn K (.ref f11) = true)
    (a12 : PySem.W.nsIn K mainGlobals "is_events" = some (some (.ref f12)))
    (l12 : K.lookup f12 = some ⟨oc12, od12, .func (PySem.W.fnOf "is_events" "is_events" (defArgs sis_events) (defBody sis_events) (defScope sis_events) .none kV12 dc12 pm12 an12 cd12 ct12), sl12⟩) (c12 : PySem.W.codeIn K cd12 "is_events" = true) (k12 : PySem.W.keepIn K (.ref f12) = true)
    (a13 : PySem.W.nsIn K mainGlobals "require_record_with" = some (some (.ref f13)))
    (l13 : K.lookup f13 = some ⟨oc13, od13, .func (PySem.W.fnOf "require_record_with" "require_record_with" (defArgs srequire_record_with) (defBody srequire_record_with) (defScope srequire_record_with) .none kV13 dc13 pm13 an13 cd13 ct13), sl13⟩) (c13 : PySem.W.codeIn K cd13 "require_record_with" = true) (k13 : PySem.W.keepIn K (.ref f13) = true)
    (a14 : PySem.W.nsIn K mainGlobals "require_record" = some (some (.ref f14)))
    (l14 : K.lookup f14 = some ⟨oc14, od14, .func (PySem.W.fnOf "require_record" "require_record" (defArgs srequire_record) (defBody srequire_record) (defScope srequire_record) .none kV14 dc14 pm14 an14 cd14 ct14), sl14⟩) (c14 : PySem.W.codeIn K cd14 "require_record" = true) (k14 : PySem.W.keepIn K (.ref f14) = true)
    (a15 : PySem.W.nsIn K mainGlobals "carried_out" = some (some (.ref f15)))
    (l15 : K.lookup f15 = some ⟨oc15, od15, .func (PySem.W.fnOf "carried_out" "carried_out" (defArgs scarried_out) (defBody scarried_out) (defScope scarried_out) .none kV15 dc15 pm15 an15 cd15 ct15), sl15⟩) (c15 : PySem.W.codeIn K cd15 "carried_out" = true) (k15 : PySem.W.keepIn K (.ref f15) = true)
    (a16 : PySem.W.findIn K (.ref CP) "__init__" = some (some (.ref f16))) (i16 : PySem.W.isFn K (.ref f16) = true)
    (l16 : K.lookup f16 = some ⟨oc16, od16, .func (PySem.W.fnOf "__init__" "Player.__init__" (defArgs sPlayer_init) (defBody sPlayer_init) (defScope sPlayer_init) .none kV16 dc16 pm16 an16 cd16 ct16), sl16⟩) (c16 : PySem.W.codeIn K cd16 "Player.__init__" = true) (k16 : PySem.W.keepIn K (.ref f16) = true)
    (a17 : PySem.W.findIn K (.ref CP) "copy" = some (some (.ref f17))) (i17 : PySem.W.isFn K (.ref f17) = true)
    (l17 : K.lookup f17 = some ⟨oc17, od17, .func (PySem.W.fnOf "copy" "Player.copy" (defArgs sPlayer_copy) (defBody sPlayer_copy) (defScope sPlayer_copy) .none kV17 dc17 pm17 an17 cd17 ct17), sl17⟩) (c17 : PySem.W.codeIn K cd17 "Player.copy" = true) (k17 : PySem.W.keepIn K (.ref f17) = true)
    (a18 : PySem.W.findIn K (.ref CP) "is_on" = some (some (.ref f18))) (i18 : PySem.W.isFn K (.ref f18) = true)
    (l18 : K.lookup f18 = some ⟨oc18, od18, .func (PySem.W.fnOf "is_on" "Player.is_on" (defArgs sPlayer_is_on) (defBody sPlayer_is_on) (defScope sPlayer_is_on) .none kV18 dc18 pm18 an18 cd18 ct18), sl18⟩) (c18 : PySem.W.codeIn K cd18 "Player.is_on" = true) (k18 : PySem.W.keepIn K (.ref f18) = true)
    (a19 : PySem.W.findIn K (.ref CP) "layers_here" = some (some (.ref f19))) (i19 : PySem.W.isFn K (.ref f19) = true)
    (l19 : K.lookup f19 = some ⟨oc19, od19, .func (PySem.W.fnOf "layers_here" "Player.layers_here" (defArgs sPlayer_layers_here) (defBody sPlayer_layers_here) (defScope sPlayer_layers_here) .none kV19 dc19 pm19 an19 cd19 ct19), sl19⟩) (c19 : PySem.W.codeIn K cd19 "Player.layers_here" = true) (k19 : PySem.W.keepIn K (.ref f19) = true)
    (a20 : PySem.W.findIn K (.ref CP) "look" = some (some (.ref f20))) (i20 : PySem.W.isFn K (.ref f20) = true)
    (l20 : K.lookup f20 = some ⟨oc20, od20, .func (PySem.W.fnOf "look" "Player.look" (defArgs sPlayer_look) (defBody sPlayer_look) (defScope sPlayer_look) .none kV20 dc20 pm20 an20 cd20 ct20), sl20⟩) (c20 : PySem.W.codeIn K cd20 "Player.look" = true) (k20 : PySem.W.keepIn K (.ref f20) = true)
    (a21 : PySem.W.findIn K (.ref CP) "down" = some (some (.ref f21))) (i21 : PySem.W.isFn K (.ref f21) = true)
    (l21 : K.lookup f21 = some ⟨oc21, od21, .func (PySem.W.fnOf "down" "Player.down" (defArgs sPlayer_down) (defBody sPlayer_down) (defScope sPlayer_down) .none kV21 dc21 pm21 an21 cd21 ct21), sl21⟩) (c21 : PySem.W.codeIn K cd21 "Player.down" = true) (k21 : PySem.W.keepIn K (.ref f21) = true)
    (a22 : PySem.W.findIn K (.ref CP) "up" = some (some (.ref f22))) (i22 : PySem.W.isFn K (.ref f22) = true)
    (l22 : K.lookup f22 = some ⟨oc22, od22, .func (PySem.W.fnOf "up" "Player.up" (defArgs sPlayer_up) (defBody sPlayer_up) (defScope sPlayer_up) .none kV22 dc22 pm22 an22 cd22 ct22), sl22⟩) (c22 : PySem.W.codeIn K cd22 "Player.up" = true) (k22 : PySem.W.keepIn K (.ref f22) = true)
    (a23 : PySem.W.nsIn K mainGlobals "decider_of" = some (some (.ref f23)))
    (l23 : K.lookup f23 = some ⟨oc23, od23, .func (PySem.W.fnOf "decider_of" "decider_of" (defArgs sdecider_of) (defBody sdecider_of) (defScope sdecider_of) .none kV23 dc23 pm23 an23 cd23 ct23), sl23⟩) (c23 : PySem.W.codeIn K cd23 "decider_of" = true) (k23 : PySem.W.keepIn K (.ref f23) = true)
    (a24 : PySem.W.nsIn K mainGlobals "sure_event" = some (some (.ref f24)))
    (l24 : K.lookup f24 = some ⟨oc24, od24, .func (PySem.W.fnOf "sure_event" "sure_event" (defArgs ssure_event) (defBody ssure_event) (defScope ssure_event) .none kV24 dc24 pm24 an24 cd24 ct24), sl24⟩) (c24 : PySem.W.codeIn K cd24 "sure_event" = true) (k24 : PySem.W.keepIn K (.ref f24) = true)
    (a25 : PySem.W.nsIn K mainGlobals "decided" = some (some (.ref f25)))
    (l25 : K.lookup f25 = some ⟨oc25, od25, .func (PySem.W.fnOf "decided" "decided" (defArgs sdecided) (defBody sdecided) (defScope sdecided) .none kV25 dc25 pm25 an25 cd25 ct25), sl25⟩) (c25 : PySem.W.codeIn K cd25 "decided" = true) (k25 : PySem.W.keepIn K (.ref f25) = true)
    (a26 : PySem.W.nsIn K mainGlobals "press_bound" = some (some (.ref f26)))
    (l26 : K.lookup f26 = some ⟨oc26, od26, .func (PySem.W.fnOf "press_bound" "press_bound" (defArgs spress_bound) (defBody spress_bound) (defScope spress_bound) .none kV26 dc26 pm26 an26 cd26 ct26), sl26⟩) (c26 : PySem.W.codeIn K cd26 "press_bound" = true) (k26 : PySem.W.keepIn K (.ref f26) = true)
    (a27 : PySem.W.nsIn K mainGlobals "steps_of" = some (some (.ref f27)))
    (l27 : K.lookup f27 = some ⟨oc27, od27, .func (PySem.W.fnOf "steps_of" "steps_of" (defArgs ssteps_of) (defBody ssteps_of) (defScope ssteps_of) .none kV27 dc27 pm27 an27 cd27 ct27), sl27⟩) (c27 : PySem.W.codeIn K cd27 "steps_of" = true) (k27 : PySem.W.keepIn K (.ref f27) = true)
    (a28 : PySem.W.nsIn K mainGlobals "played" = some (some (.ref f28)))
    (l28 : K.lookup f28 = some ⟨oc28, od28, .func (PySem.W.fnOf "played" "played" (defArgs splayed) (defBody splayed) (defScope splayed) .none kV28 dc28 pm28 an28 cd28 ct28), sl28⟩) (c28 : PySem.W.codeIn K cd28 "played" = true) (k28 : PySem.W.keepIn K (.ref f28) = true)
    (a29 : PySem.W.nsIn K mainGlobals "flat" = some (some (.ref f29)))
    (l29 : K.lookup f29 = some ⟨oc29, od29, .func (PySem.W.fnOf "flat" "flat" (defArgs sflat) (defBody sflat) (defScope sflat) .none kV29 dc29 pm29 an29 cd29 ct29), sl29⟩) (c29 : PySem.W.codeIn K cd29 "flat" = true) (k29 : PySem.W.keepIn K (.ref f29) = true)
    (a30 : PySem.W.nsIn K mainGlobals "lifted_numbers" = some (some (.ref f30)))
    (l30 : K.lookup f30 = some ⟨oc30, od30, .func (PySem.W.fnOf "lifted_numbers" "lifted_numbers" (defArgs slifted_numbers) (defBody slifted_numbers) (defScope slifted_numbers) .none kV30 dc30 pm30 an30 cd30 ct30), sl30⟩) (c30 : PySem.W.codeIn K cd30 "lifted_numbers" = true) (k30 : PySem.W.keepIn K (.ref f30) = true)
    (a31 : PySem.W.nsIn K mainGlobals "merged_rows" = some (some (.ref f31)))
    (l31 : K.lookup f31 = some ⟨oc31, od31, .func (PySem.W.fnOf "merged_rows" "merged_rows" (defArgs smerged_rows) (defBody smerged_rows) (defScope smerged_rows) .none kV31 dc31 pm31 an31 cd31 ct31), sl31⟩) (c31 : PySem.W.codeIn K cd31 "merged_rows" = true) (k31 : PySem.W.keepIn K (.ref f31) = true)
    (a32 : PySem.W.nsIn K mainGlobals "arrival_bounds" = some (some (.ref f32)))
    (l32 : K.lookup f32 = some ⟨oc32, od32, .func (PySem.W.fnOf "arrival_bounds" "arrival_bounds" (defArgs sarrival_bounds) (defBody sarrival_bounds) (defScope sarrival_bounds) .none kV32 dc32 pm32 an32 cd32 ct32), sl32⟩) (c32 : PySem.W.codeIn K cd32 "arrival_bounds" = true) (k32 : PySem.W.keepIn K (.ref f32) = true)
    (a33 : PySem.W.findIn K (.ref CW) "__init__" = some (some (.ref f33))) (i33 : PySem.W.isFn K (.ref f33) = true)
    (l33 : K.lookup f33 = some ⟨oc33, od33, .func (PySem.W.fnOf "__init__" "Way.__init__" (defArgs sWay_init) (defBody sWay_init) (defScope sWay_init) .none kV33 dc33 pm33 an33 cd33 ct33), sl33⟩) (c33 : PySem.W.codeIn K cd33 "Way.__init__" = true) (k33 : PySem.W.keepIn K (.ref f33) = true)
    (a34 : PySem.W.nsIn K mainGlobals "plain_step" = some (some (.ref f34)))
    (l34 : K.lookup f34 = some ⟨oc34, od34, .func (PySem.W.fnOf "plain_step" "plain_step" (defArgs splain_step) (defBody splain_step) (defScope splain_step) .none kV34 dc34 pm34 an34 cd34 ct34), sl34⟩) (c34 : PySem.W.codeIn K cd34 "plain_step" = true) (k34 : PySem.W.keepIn K (.ref f34) = true)
    (a35 : PySem.W.nsIn K mainGlobals "choice_at" = some (some (.ref f35)))
    (l35 : K.lookup f35 = some ⟨oc35, od35, .func (PySem.W.fnOf "choice_at" "choice_at" (defArgs schoice_at) (defBody schoice_at) (defScope schoice_at) .none kV35 dc35 pm35 an35 cd35 ct35), sl35⟩) (c35 : PySem.W.codeIn K cd35 "choice_at" = true) (k35 : PySem.W.keepIn K (.ref f35) = true)
    (a36 : PySem.W.findIn K (.ref CW) "play" = some (some (.ref f36))) (i36 : PySem.W.isFn K (.ref f36) = true)
    (l36 : K.lookup f36 = some ⟨oc36, od36, .func (PySem.W.fnOf "play" "Way.play" (defArgs sWay_play) (defBody sWay_play) (defScope sWay_play) .none kV36 dc36 pm36 an36 cd36 ct36), sl36⟩) (c36 : PySem.W.codeIn K cd36 "Way.play" = true) (k36 : PySem.W.keepIn K (.ref f36) = true)
    (a37 : PySem.W.findIn K (.ref CW) "turned" = some (some (.ref f37))) (i37 : PySem.W.isFn K (.ref f37) = true)
    (l37 : K.lookup f37 = some ⟨oc37, od37, .func (PySem.W.fnOf "turned" "Way.turned" (defArgs sWay_turned) (defBody sWay_turned) (defScope sWay_turned) .none kV37 dc37 pm37 an37 cd37 ct37), sl37⟩) (c37 : PySem.W.codeIn K cd37 "Way.turned" = true) (k37 : PySem.W.keepIn K (.ref f37) = true)
    (a38 : PySem.W.nsIn K mainGlobals "ways_of" = some (some (.ref f38)))
    (l38 : K.lookup f38 = some ⟨oc38, od38, .func (PySem.W.fnOf "ways_of" "ways_of" (defArgs sways_of) (defBody sways_of) (defScope sways_of) .none kV38 dc38 pm38 an38 cd38 ct38), sl38⟩) (c38 : PySem.W.codeIn K cd38 "ways_of" = true) (k38 : PySem.W.keepIn K (.ref f38) = true)
    (a39 : PySem.W.nsIn K mainGlobals "require_keys" = some (some (.ref f39)))
    (l39 : K.lookup f39 = some ⟨oc39, od39, .func (PySem.W.fnOf "require_keys" "require_keys" (defArgs srequire_keys) (defBody srequire_keys) (defScope srequire_keys) .none kV39 dc39 pm39 an39 cd39 ct39), sl39⟩) (c39 : PySem.W.codeIn K cd39 "require_keys" = true) (k39 : PySem.W.keepIn K (.ref f39) = true)
    (a40 : PySem.W.nsIn K mainGlobals "require_arguments" = some (some (.ref f40)))
    (l40 : K.lookup f40 = some ⟨oc40, od40, .func (PySem.W.fnOf "require_arguments" "require_arguments" (defArgs srequire_arguments) (defBody srequire_arguments) (defScope srequire_arguments) .none kV40 dc40 pm40 an40 cd40 ct40), sl40⟩) (c40 : PySem.W.codeIn K cd40 "require_arguments" = true) (k40 : PySem.W.keepIn K (.ref f40) = true)
    (a41 : PySem.W.nsIn K mainGlobals "arrivals" = some (some (.ref f41)))
    (l41 : K.lookup f41 = some ⟨oc41, od41, .func (PySem.W.fnOf "arrivals" "arrivals" (defArgs sarrivals) (defBody sarrivals) (defScope sarrivals) .none kV41 dc41 pm41 an41 cd41 ct41), sl41⟩) (c41 : PySem.W.codeIn K cd41 "arrivals" = true) (k41 : PySem.W.keepIn K (.ref f41) = true)
    (a42 : PySem.W.nsIn K mainGlobals "delays_for" = some (some (.ref f42)))
    (l42 : K.lookup f42 = some ⟨oc42, od42, .func (PySem.W.fnOf "delays_for" "delays_for" (defArgs sdelays_for) (defBody sdelays_for) (defScope sdelays_for) .none kV42 dc42 pm42 an42 cd42 ct42), sl42⟩) (c42 : PySem.W.codeIn K cd42 "delays_for" = true) (k42 : PySem.W.keepIn K (.ref f42) = true)
    (a43 : PySem.W.nsIn K mainGlobals "safe_late" = some (some (.ref f43)))
    (l43 : K.lookup f43 = some ⟨oc43, od43, .func (PySem.W.fnOf "safe_late" "safe_late" (defArgs ssafe_late) (defBody ssafe_late) (defScope ssafe_late) .none kV43 dc43 pm43 an43 cd43 ct43), sl43⟩) (c43 : PySem.W.codeIn K cd43 "safe_late" = true) (k43 : PySem.W.keepIn K (.ref f43) = true)
    (a44 : PySem.W.nsIn K mainGlobals "margins" = some (some (.ref f44)))
    (l44 : K.lookup f44 = some ⟨oc44, od44, .func (PySem.W.fnOf "margins" "margins" (defArgs smargins) (defBody smargins) (defScope smargins) .none kV44 dc44 pm44 an44 cd44 ct44), sl44⟩) (c44 : PySem.W.codeIn K cd44 "margins" = true) (k44 : PySem.W.keepIn K (.ref f44) = true)
    (a45 : PySem.W.nsIn K mainGlobals "slack" = some (some (.ref f45)))
    (l45 : K.lookup f45 = some ⟨oc45, od45, .func (PySem.W.fnOf "slack" "slack" (defArgs sslack) (defBody sslack) (defScope sslack) .none kV45 dc45 pm45 an45 cd45 ct45), sl45⟩) (c45 : PySem.W.codeIn K cd45 "slack" = true) (k45 : PySem.W.keepIn K (.ref f45) = true)
    (a46 : PySem.W.nsIn K mainGlobals "late_results" = some (some (.ref f46)))
    (l46 : K.lookup f46 = some ⟨oc46, od46, .func (PySem.W.fnOf "late_results" "late_results" (defArgs slate_results) (defBody slate_results) (defScope slate_results) .none kV46 dc46 pm46 an46 cd46 ct46), sl46⟩) (c46 : PySem.W.codeIn K cd46 "late_results" = true) (k46 : PySem.W.keepIn K (.ref f46) = true)
    (a47 : PySem.W.nsIn K mainGlobals "_law_pool" = some (some (.ref f47)))
    (l47 : K.lookup f47 = some ⟨oc47, od47, .func (PySem.W.fnOf "_law_pool" "_law_pool" (defArgs s_law_pool) (defBody s_law_pool) (defScope s_law_pool) .none kV47 dc47 pm47 an47 cd47 ct47), sl47⟩) (c47 : PySem.W.codeIn K cd47 "_law_pool" = true) (k47 : PySem.W.keepIn K (.ref f47) = true)
    (a48 : PySem.W.nsIn K mainGlobals "_law_draw" = some (some (.ref f48)))
    (l48 : K.lookup f48 = some ⟨oc48, od48, .func (PySem.W.fnOf "_law_draw" "_law_draw" (defArgs s_law_draw) (defBody s_law_draw) (defScope s_law_draw) .none kV48 dc48 pm48 an48 cd48 ct48), sl48⟩) (c48 : PySem.W.codeIn K cd48 "_law_draw" = true) (k48 : PySem.W.keepIn K (.ref f48) = true)
    (a49 : PySem.W.nsIn K mainGlobals "_law_action" = some (some (.ref f49)))
    (l49 : K.lookup f49 = some ⟨oc49, od49, .func (PySem.W.fnOf "_law_action" "_law_action" (defArgs s_law_action) (defBody s_law_action) (defScope s_law_action) .none kV49 dc49 pm49 an49 cd49 ct49), sl49⟩) (c49 : PySem.W.codeIn K cd49 "_law_action" = true) (k49 : PySem.W.keepIn K (.ref f49) = true)
    (a50 : PySem.W.nsIn K mainGlobals "_law_layout" = some (some (.ref f50)))
    (l50 : K.lookup f50 = some ⟨oc50, od50, .func (PySem.W.fnOf "_law_layout" "_law_layout" (defArgs s_law_layout) (defBody s_law_layout) (defScope s_law_layout) .none kV50 dc50 pm50 an50 cd50 ct50), sl50⟩) (c50 : PySem.W.codeIn K cd50 "_law_layout" = true) (k50 : PySem.W.keepIn K (.ref f50) = true)
    (a51 : PySem.W.nsIn K mainGlobals "_law_far" = some (some (.ref f51)))
    (l51 : K.lookup f51 = some ⟨oc51, od51, .func (PySem.W.fnOf "_law_far" "_law_far" (defArgs s_law_far) (defBody s_law_far) (defScope s_law_far) .none kV51 dc51 pm51 an51 cd51 ct51), sl51⟩) (c51 : PySem.W.codeIn K cd51 "_law_far" = true) (k51 : PySem.W.keepIn K (.ref f51) = true)
    (a52 : PySem.W.nsIn K mainGlobals "_law_timed" = some (some (.ref f52)))
    (l52 : K.lookup f52 = some ⟨oc52, od52, .func (PySem.W.fnOf "_law_timed" "_law_timed" (defArgs s_law_timed) (defBody s_law_timed) (defScope s_law_timed) .none kV52 dc52 pm52 an52 cd52 ct52), sl52⟩) (c52 : PySem.W.codeIn K cd52 "_law_timed" = true) (k52 : PySem.W.keepIn K (.ref f52) = true)
    (a53 : PySem.W.nsIn K mainGlobals "_law_order" = some (some (.ref f53)))
    (l53 : K.lookup f53 = some ⟨oc53, od53, .func (PySem.W.fnOf "_law_order" "_law_order" (defArgs s_law_order) (defBody s_law_order) (defScope s_law_order) .none kV53 dc53 pm53 an53 cd53 ct53), sl53⟩) (c53 : PySem.W.codeIn K cd53 "_law_order" = true) (k53 : PySem.W.keepIn K (.ref f53) = true)
    (a54 : PySem.W.nsIn K mainGlobals "_law_right" = some (some (.ref f54)))
    (l54 : K.lookup f54 = some ⟨oc54, od54, .func (PySem.W.fnOf "_law_right" "_law_right" (defArgs s_law_right) (defBody s_law_right) (defScope s_law_right) .none kV54 dc54 pm54 an54 cd54 ct54), sl54⟩) (c54 : PySem.W.codeIn K cd54 "_law_right" = true) (k54 : PySem.W.keepIn K (.ref f54) = true)
    (a55 : PySem.W.nsIn K mainGlobals "law" = some (some (.ref f55)))
    (l55 : K.lookup f55 = some ⟨oc55, od55, .func (PySem.W.fnOf "law" "law" (defArgs slaw) (defBody slaw) (defScope slaw) .none kV55 dc55 pm55 an55 cd55 ct55), sl55⟩) (c55 : PySem.W.codeIn K cd55 "law" = true) (k55 : PySem.W.keepIn K (.ref f55) = true)
    (z_len : PySem.W.nsIn K mainGlobals "len" = some none) (z_isinstance : PySem.W.nsIn K mainGlobals "isinstance" = some none) (z_all : PySem.W.nsIn K mainGlobals "all" = some none) (z_any : PySem.W.nsIn K mainGlobals "any" = some none) (z_abs : PySem.W.nsIn K mainGlobals "abs" = some none) (z_max : PySem.W.nsIn K mainGlobals "max" = some none) (z_min : PySem.W.nsIn K mainGlobals "min" = some none) (z_int : PySem.W.nsIn K mainGlobals "int" = some none) (z_bool : PySem.W.nsIn K mainGlobals "bool" = some none) (z_str : PySem.W.nsIn K mainGlobals "str" = some none) (z_list : PySem.W.nsIn K mainGlobals "list" = some none) (z_tuple : PySem.W.nsIn K mainGlobals "tuple" = some none) (z_dict : PySem.W.nsIn K mainGlobals "dict" = some none) (z_range : PySem.W.nsIn K mainGlobals "range" = some none) (z_enumerate : PySem.W.nsIn K mainGlobals "enumerate" = some none) (z_zip : PySem.W.nsIn K mainGlobals "zip" = some none) (z_sorted : PySem.W.nsIn K mainGlobals "sorted" = some none)
    (hT : Tc mg K) (aR : PySem.W.nsIn K mainGlobals "RULES" = some (some (.ref rR))) (lR : K.lookup rR = some ⟨.type "tuple", odR, .seq itR nR, slR⟩) (zR : itR.size ≤ sizeLine) (vR : Vals [.str "time", .str "other", .str "within"] itR.toList) :
    ∃ fd : FuncData, (∀ (s : Shared) (v : Value), BindsTo s fd ⟨[v], []⟩ [("_law_script", v)]) ∧ ∀ base : Heap, K.In base → base.Ns mainGlobals mg → FnOk P w K mg base CX0 13 fa fd ["_law_script"] (sp_law K) := by
  have e := hfa.symm.trans (PySem.W.mg_of X G a55)
  cases e
  have B : Bt mg := ⟨PySem.W.mg_none_of X G z_len, PySem.W.mg_none_of X G z_isinstance, PySem.W.mg_none_of X G z_all, PySem.W.mg_none_of X G z_any, PySem.W.mg_none_of X G z_abs, PySem.W.mg_none_of X G z_max, PySem.W.mg_none_of X G z_min, PySem.W.mg_none_of X G z_int, PySem.W.mg_none_of X G z_bool, PySem.W.mg_none_of X G z_str, PySem.W.mg_none_of X G z_list, PySem.W.mg_none_of X G z_tuple, PySem.W.mg_none_of X G z_dict, PySem.W.mg_none_of X G z_range, PySem.W.mg_none_of X G z_enumerate, PySem.W.mg_none_of X G z_zip, PySem.W.mg_none_of X G z_sorted⟩
  have TC := hT
  have hRULES : ∃ a, mg "RULES" = some (.ref a) ∧ ∀ H, SqT K H a [.str "time", .str "other", .str "within"] := ⟨_, PySem.W.mg_of X G aR, fun H => .inr ⟨_, _, _, lR, rfl, rfl, zR, vR⟩⟩
  have clCP : Cls K CP := ⟨pgCP, hdCP, poCP, saCP⟩
  have clCW : Cls K CW := ⟨pgCW, hdCW, poCW, saCW⟩
  have TP : PlC K CP := ⟨clCP, nCP0, nCP1, nCP2, nCP3⟩
  have TW : WyC K CW := ⟨clCW, nCW0, nCW1, nCW2, nCW3, nCW4⟩
  have F1 := fun_mk (st := sis_integer) l1 c1 k1
  have b1 := F1.binds (ps := Pis_integer) fun _ _ _ _ _ _ us hl => match us, hl with | [_, _, _], _ => rfl
  have F2 := fun_mk (st := sis_code) l2 c2 k2
  have b2 := F2.binds (ps := Pis_code) fun _ _ _ _ _ _ us hl => match us, hl with | [_], _ => rfl
  have F3 := fun_mk (st := sis_hold) l3 c3 k3
  have b3 := F3.binds (ps := Pis_hold) fun _ _ _ _ _ _ us hl => match us, hl with | [_, _], _ => rfl
  have F4 := fun_mk (st := sis_dual) l4 c4 k4
  have b4 := F4.binds (ps := Pis_dual) fun _ _ _ _ _ _ us hl => match us, hl with | [_], _ => rfl
  have F5 := fun_mk (st := sis_action) l5 c5 k5
  have b5 := F5.binds (ps := Pis_action) fun _ _ _ _ _ _ us hl => match us, hl with | [_, _, _], _ => rfl
  have F6 := fun_mk (st := sis_table) l6 c6 k6
  have b6 := F6.binds (ps := Pis_table) fun _ _ _ _ _ _ us hl => match us, hl with | [_], _ => rfl
  have F7 := fun_mk (st := swrong_places) l7 c7 k7
  have b7 := F7.binds (ps := Pwrong_places) fun _ _ _ _ _ _ us hl => match us, hl with | [_], _ => rfl
  have F8 := fun_mk (st := srequire_layout) l8 c8 k8
  have b8 := F8.binds (ps := Prequire_layout) fun _ _ _ _ _ _ us hl => match us, hl with | [_], _ => rfl
  have F9 := fun_mk (st := swrong_step) l9 c9 k9
  have b9 := F9.binds (ps := Pwrong_step) fun _ _ _ _ _ _ us hl => match us, hl with | [_, _, _], _ => rfl
  have F10 := fun_mk (st := sfirst_wrong_step) l10 c10 k10
  have b10 := F10.binds (ps := Pfirst_wrong_step) fun _ _ _ _ _ _ us hl => match us, hl with | [_, _], _ => rfl
  have F11 := fun_mk (st := sfirst_wrong_event) l11 c11 k11
  have b11 := F11.binds (ps := Pfirst_wrong_event) fun _ _ _ _ _ _ us hl => match us, hl with | [_, _], _ => rfl
  have F12 := fun_mk (st := sis_events) l12 c12 k12
  have b12 := F12.binds (ps := Pis_events) fun _ _ _ _ _ _ us hl => match us, hl with | [_], _ => rfl
  have F13 := fun_mk (st := srequire_record_with) l13 c13 k13
  have b13 := F13.binds (ps := Prequire_record_with) fun _ _ _ _ _ _ us hl => match us, hl with | [_, _], _ => rfl
  have F14 := fun_mk (st := srequire_record) l14 c14 k14
  have b14 := F14.binds (ps := Prequire_record) fun _ _ _ _ _ _ us hl => match us, hl with | [_, _], _ => rfl
  have F15 := fun_mk (st := scarried_out) l15 c15 k15
  have b15 := F15.binds (ps := Pcarried_out) fun _ _ _ _ _ _ us hl => match us, hl with | [_, _], _ => rfl
  have F16 := fun_mk (st := sPlayer_init) l16 c16 k16
  have b16 := F16.binds (ps := PPlayer_init) fun _ _ _ _ _ _ us hl => match us, hl with | [_, _], _ => rfl
  have F17 := fun_mk (st := sPlayer_copy) l17 c17 k17
  have b17 := F17.binds (ps := PPlayer_copy) fun _ _ _ _ _ _ us hl => match us, hl with | [_], _ => rfl
  have F18 := fun_mk (st := sPlayer_is_on) l18 c18 k18
  have b18 := F18.binds (ps := PPlayer_is_on) fun _ _ _ _ _ _ us hl => match us, hl with | [_, _], _ => rfl
  have F19 := fun_mk (st := sPlayer_layers_here) l19 c19 k19
  have b19 := F19.binds (ps := PPlayer_layers_here) fun _ _ _ _ _ _ us hl => match us, hl with | [_], _ => rfl
  have F20 := fun_mk (st := sPlayer_look) l20 c20 k20
  have b20 := F20.binds (ps := PPlayer_look) fun _ _ _ _ _ _ us hl => match us, hl with | [_, _], _ => rfl
  have F21 := fun_mk (st := sPlayer_down) l21 c21 k21
  have b21 := F21.binds (ps := PPlayer_down) fun _ _ _ _ _ _ us hl => match us, hl with | [_, _, _], _ => rfl
  have F22 := fun_mk (st := sPlayer_up) l22 c22 k22
  have b22 := F22.binds (ps := PPlayer_up) fun _ _ _ _ _ _ us hl => match us, hl with | [_, _], _ => rfl
  have F23 := fun_mk (st := sdecider_of) l23 c23 k23
  have b23 := F23.binds (ps := Pdecider_of) fun _ _ _ _ _ _ us hl => match us, hl with | [_, _, _], _ => rfl
  have F24 := fun_mk (st := ssure_event) l24 c24 k24
  have b24 := F24.binds (ps := Psure_event) fun _ _ _ _ _ _ us hl => match us, hl with | [_, _, _], _ => rfl
  have F25 := fun_mk (st := sdecided) l25 c25 k25
  have b25 := F25.binds (ps := Pdecided) fun _ _ _ _ _ _ us hl => match us, hl with | [_, _, _], _ => rfl
  have F26 := fun_mk (st := spress_bound) l26 c26 k26
  have b26 := F26.binds (ps := Ppress_bound) fun _ _ _ _ _ _ us hl => match us, hl with | [_, _, _, _], _ => rfl
  have F27 := fun_mk (st := ssteps_of) l27 c27 k27
  have b27 := F27.binds (ps := Psteps_of) fun _ _ _ _ _ _ us hl => match us, hl with | [_, _], _ => rfl
  have F28 := fun_mk (st := splayed) l28 c28 k28
  have b28 := F28.binds (ps := Pplayed) fun _ _ _ _ _ _ us hl => match us, hl with | [_, _], _ => rfl
  have F29 := fun_mk (st := sflat) l29 c29 k29
  have b29 := F29.binds (ps := Pflat) fun _ _ _ _ _ _ us hl => match us, hl with | [_, _], _ => rfl
  have F30 := fun_mk (st := slifted_numbers) l30 c30 k30
  have b30 := F30.binds (ps := Plifted_numbers) fun _ _ _ _ _ _ us hl => match us, hl with | [_, _], _ => rfl
  have F31 := fun_mk (st := smerged_rows) l31 c31 k31
  have b31 := F31.binds (ps := Pmerged_rows) fun _ _ _ _ _ _ us hl => match us, hl with | [_, _], _ => rfl
  have F32 := fun_mk (st := sarrival_bounds) l32 c32 k32
  have b32 := F32.binds (ps := Parrival_bounds) fun _ _ _ _ _ _ us hl => match us, hl with | [_, _, _], _ => rfl
  have F33 := fun_mk (st := sWay_init) l33 c33 k33
  have b33 := F33.binds (ps := PWay_init) fun _ _ _ _ _ _ us hl => match us, hl with | [_, _, _, _], _ => rfl
  have F34 := fun_mk (st := splain_step) l34 c34 k34
  have b34 := F34.binds (ps := Pplain_step) fun _ _ _ _ _ _ us hl => match us, hl with | [_, _, _], _ => rfl
  have F35 := fun_mk (st := schoice_at) l35 c35 k35
  have b35 := F35.binds (ps := Pchoice_at) fun _ _ _ _ _ _ us hl => match us, hl with | [_, _, _], _ => rfl
  have F36 := fun_mk (st := sWay_play) l36 c36 k36
  have b36 := F36.binds (ps := PWay_play) fun _ _ _ _ _ _ us hl => match us, hl with | [_, _, _], _ => rfl
  have F37 := fun_mk (st := sWay_turned) l37 c37 k37
  have b37 := F37.binds (ps := PWay_turned) fun _ _ _ _ _ _ us hl => match us, hl with | [_, _, _, _], _ => rfl
  have F38 := fun_mk (st := sways_of) l38 c38 k38
  have b38 := F38.binds (ps := Pways_of) fun _ _ _ _ _ _ us hl => match us, hl with | [_, _, _], _ => rfl
  have F39 := fun_mk (st := srequire_keys) l39 c39 k39
  have b39 := F39.binds (ps := Prequire_keys) fun _ _ _ _ _ _ us hl => match us, hl with | [_, _], _ => rfl
  have F40 := fun_mk (st := srequire_arguments) l40 c40 k40
  have b40 := F40.binds (ps := Prequire_arguments) fun _ _ _ _ _ _ us hl => match us, hl with | [_, _, _, _], _ => rfl
  have F41 := fun_mk (st := sarrivals) l41 c41 k41
  have b41 := F41.binds (ps := Parrivals) fun _ _ _ _ _ _ us hl => match us, hl with | [_, _, _], _ => rfl
  have F42 := fun_mk (st := sdelays_for) l42 c42 k42
  have b42 := F42.binds (ps := Pdelays_for) fun _ _ _ _ _ _ us hl => match us, hl with | [_, _, _, _, _], _ => rfl
  have F43 := fun_mk (st := ssafe_late) l43 c43 k43
  have b43 := F43.binds (ps := Psafe_late) fun _ _ _ _ _ _ us hl => match us, hl with | [_, _, _, _], _ => rfl
  have F44 := fun_mk (st := smargins) l44 c44 k44
  have b44 := F44.binds (ps := Pmargins) fun _ _ _ _ _ _ us hl => match us, hl with | [_, _], _ => rfl
  have F45 := fun_mk (st := sslack) l45 c45 k45
  have b45 := F45.binds (ps := Pslack) fun _ _ _ _ _ _ us hl => match us, hl with | [_, _], _ => rfl
  have F46 := fun_mk (st := slate_results) l46 c46 k46
  have b46 := F46.binds (ps := Plate_results) fun _ _ _ _ _ _ us hl => match us, hl with | [_, _, _, _], _ => rfl
  have F47 := fun_mk (st := s_law_pool) l47 c47 k47
  have b47 := F47.binds (ps := P_law_pool) fun _ _ _ _ _ _ us hl => match us, hl with | [_, _], _ => rfl
  have F48 := fun_mk (st := s_law_draw) l48 c48 k48
  have b48 := F48.binds (ps := P_law_draw) fun _ _ _ _ _ _ us hl => match us, hl with | [_, _], _ => rfl
  have F49 := fun_mk (st := s_law_action) l49 c49 k49
  have b49 := F49.binds (ps := P_law_action) fun _ _ _ _ _ _ us hl => match us, hl with | [_, _, _, _, _], _ => rfl
  have F50 := fun_mk (st := s_law_layout) l50 c50 k50
  have b50 := F50.binds (ps := P_law_layout) fun _ _ _ _ _ _ us hl => match us, hl with | [_, _, _, _, _], _ => rfl
  have F51 := fun_mk (st := s_law_far) l51 c51 k51
  have b51 := F51.binds (ps := P_law_far) fun _ _ _ _ _ _ us hl => match us, hl with | [_, _], _ => rfl
  have F52 := fun_mk (st := s_law_timed) l52 c52 k52
  have b52 := F52.binds (ps := P_law_timed) fun _ _ _ _ _ _ us hl => match us, hl with | [_, _, _], _ => rfl
  have F53 := fun_mk (st := s_law_order) l53 c53 k53
  have b53 := F53.binds (ps := P_law_order) fun _ _ _ _ _ _ us hl => match us, hl with | [_, _, _], _ => rfl
  have F54 := fun_mk (st := s_law_right) l54 c54 k54
  have b54 := F54.binds (ps := P_law_right) fun _ _ _ _ _ _ us hl => match us, hl with | [_, _, _, _, _], _ => rfl
  have F55 := fun_mk (st := slaw) l55 c55 k55
  have b55 := F55.binds (ps := Plaw) fun _ _ _ _ _ _ us hl => match us, hl with | [_], _ => rfl
  refine ⟨PySem.W.fnOf "law" "law" (defArgs slaw) (defBody slaw) (defScope slaw) .none kV55 dc55 pm55 an55 cd55 ct55, fun s v => .of_eq rfl, fun base _ _ => ?_⟩
  have c_is_integer : C8.Cal P w K mg base 1 "is_integer" sp_is_integer [] := ⟨_, _, _, _, ok_is_integer F1 B, PySem.W.mg_of X G a1, k1, b1, .nil⟩
  have c_is_code : C8.Cal P w K mg base 1 "is_code" sp_is_code [] := ⟨_, _, _, _, ok_is_code F2 B TC, PySem.W.mg_of X G a2, k2, b2, .nil⟩
  have c_is_hold : C8.Cal P w K mg base 2 "is_hold" sp_is_hold [] := ⟨_, _, _, _, ok_is_hold F3 B c_is_code c_is_integer, PySem.W.mg_of X G a3, k3, b3, .nil⟩
  have c_is_dual : C8.Cal P w K mg base 1 "is_dual" sp_is_dual [] := ⟨_, _, _, _, ok_is_dual F4 B, PySem.W.mg_of X G a4, k4, b4, .nil⟩
  have c_is_action : C8.Cal P w K mg base 3 "is_action" sp_is_action [] := ⟨_, _, _, _, ok_is_action F5 B TC hRULES c_is_code c_is_integer c_is_hold, PySem.W.mg_of X G a5, k5, b5, .nil⟩
  have c_is_table : C8.Cal P w K mg base 1 "is_table" sp_is_table [] := ⟨_, _, _, _, ok_is_table F6 B, PySem.W.mg_of X G a6, k6, b6, .nil⟩
  have c_wrong_places : C8.Cal P w K mg base 4 "wrong_places" sp_wrong_places [] := ⟨_, _, _, _, ok_wrong_places F7 B c_is_action, PySem.W.mg_of X G a7, k7, b7, .nil⟩
  have c_require_layout : C8.Cal P w K mg base 5 "require_layout" sp_require_layout [] := ⟨_, _, _, _, ok_require_layout F8 B c_is_table c_wrong_places, PySem.W.mg_of X G a8, k8, b8, .nil⟩
  have c_wrong_step : C8.Cal P w K mg base 2 "wrong_step" sp_wrong_step [] := ⟨_, _, _, _, ok_wrong_step F9 B c_is_integer, PySem.W.mg_of X G a9, k9, b9, .nil⟩
  have c_first_wrong_step : C8.Cal P w K mg base 3 "first_wrong_step" sp_first_wrong_step [] := ⟨_, _, _, _, ok_first_wrong_step F10 B c_wrong_step, PySem.W.mg_of X G a10, k10, b10, .nil⟩
  have c_first_wrong_event : C8.Cal P w K mg base 4 "first_wrong_event" sp_first_wrong_event [] := ⟨_, _, _, _, ok_first_wrong_event F11 B c_is_integer c_first_wrong_step, PySem.W.mg_of X G a11, k11, b11, .nil⟩
  have c_is_events : C8.Cal P w K mg base 1 "is_events" sp_is_events [] := ⟨_, _, _, _, ok_is_events F12 B TC, PySem.W.mg_of X G a12, k12, b12, .nil⟩
  have c_require_record_with : C8.Cal P w K mg base 5 "require_record_with" sp_require_record_with [] := ⟨_, _, _, _, ok_require_record_with F13 B c_is_events c_first_wrong_event, PySem.W.mg_of X G a13, k13, b13, .nil⟩
  have c_require_record : C8.Cal P w K mg base 6 "require_record" sp_require_record [] := ⟨_, _, _, _, ok_require_record F14 B c_require_record_with, PySem.W.mg_of X G a14, k14, b14, .nil⟩
  have c_carried_out : C8.Cal P w K mg base 2 "carried_out" sp_carried_out [] := ⟨_, _, _, _, ok_carried_out F15 B c_is_dual, PySem.W.mg_of X G a15, k15, b15, .nil⟩
  have m_Player : C8.Mak P w K mg base 1 "Player" CP (sp_Player_init CP) [] := ⟨_, _, _, _, ⟨mkCP, a16, i16, kcCP⟩, ok_Player_init F16 TP, PySem.W.mg_of X G aCP, b16, .nil⟩
  have m_Player_copy : C8.Met P w K mg base 3 CP "copy" (sp_Player_copy CP) [] := ⟨_, _, _, _, clCP, ⟨a17, i17, k17⟩, ok_Player_copy F17 B TP m_Player, b17, .nil⟩
  have m_Player_is_on : C8.Met P w K mg base 1 CP "is_on" (sp_Player_is_on CP) [] := ⟨_, _, _, _, clCP, ⟨a18, i18, k18⟩, ok_Player_is_on F18 B TP, b18, .nil⟩
  have m_Player_layers_here : C8.Met P w K mg base 2 CP "layers_here" (sp_Player_layers_here CP) [] := ⟨_, _, _, _, clCP, ⟨a19, i19, k19⟩, ok_Player_layers_here F19 B TP m_Player_is_on, b19, .nil⟩
  have m_Player_look : C8.Met P w K mg base 3 CP "look" (sp_Player_look CP) [] := ⟨_, _, _, _, clCP, ⟨a20, i20, k20⟩, ok_Player_look F20 B TP m_Player_layers_here, b20, .nil⟩
  have m_Player_down : C8.Met P w K mg base 4 CP "down" (sp_Player_down CP) [] := ⟨_, _, _, _, clCP, ⟨a21, i21, k21⟩, ok_Player_down F21 B TP m_Player_look c_carried_out, b21, .nil⟩
  have m_Player_up : C8.Met P w K mg base 1 CP "up" (sp_Player_up CP) [] := ⟨_, _, _, _, clCP, ⟨a22, i22, k22⟩, ok_Player_up F22 B TP, b22, .nil⟩
  have c_decider_of : C8.Cal P w K mg base 1 "decider_of" sp_decider_of [] := ⟨_, _, _, _, ok_decider_of F23 B, PySem.W.mg_of X G a23, k23, b23, .nil⟩
  have c_sure_event : C8.Cal P w K mg base 2 "sure_event" sp_sure_event [] := ⟨_, _, _, _, ok_sure_event F24 B c_decider_of, PySem.W.mg_of X G a24, k24, b24, .nil⟩
  have c_decided : C8.Cal P w K mg base 3 "decided" sp_decided [] := ⟨_, _, _, _, ok_decided F25 B c_is_dual c_sure_event, PySem.W.mg_of X G a25, k25, b25, .nil⟩
  have c_press_bound : C8.Cal P w K mg base 1 "press_bound" sp_press_bound [] := ⟨_, _, _, _, ok_press_bound F26 TC, PySem.W.mg_of X G a26, k26, b26, .nil⟩
  have c_steps_of : C8.Cal P w K mg base 5 "steps_of" sp_steps_of [] := ⟨_, _, _, _, ok_steps_of F27 B m_Player m_Player_look m_Player_down m_Player_up c_decided, PySem.W.mg_of X G a27, k27, b27, .nil⟩
  have c_played : C8.Cal P w K mg base 7 "played" sp_played [] := ⟨_, _, _, _, ok_played F28 B c_require_layout c_require_record c_steps_of, PySem.W.mg_of X G a28, k28, b28, .nil⟩
  have c_flat : C8.Cal P w K mg base 8 "flat" sp_flat [] := ⟨_, _, _, _, ok_flat F29 B c_played, PySem.W.mg_of X G a29, k29, b29, .nil⟩
  have c_lifted_numbers : C8.Cal P w K mg base 1 "lifted_numbers" sp_lifted_numbers [] := ⟨_, _, _, _, ok_lifted_numbers F30 B, PySem.W.mg_of X G a30, k30, b30, .nil⟩
  have c_merged_rows : C8.Cal P w K mg base 9 "merged_rows" (sp_merged_rows 8) [] := ⟨_, _, _, _, ok_merged_rows F31 B (PySem.W.mg_of X G a31) b31 8 (by decide), PySem.W.mg_of X G a31, k31, b31, .nil⟩
  have c_arrival_bounds : C8.Cal P w K mg base 1 "arrival_bounds" sp_arrival_bounds [] := ⟨_, _, _, _, ok_arrival_bounds F32 B, PySem.W.mg_of X G a32, k32, b32, .nil⟩
  have m_Way : C8.Mak P w K mg base 1 "Way" CW (sp_Way_init CW) [] := ⟨_, _, _, _, ⟨mkCW, a33, i33, kcCW⟩, ok_Way_init F33 TW, PySem.W.mg_of X G aCW, b33, .nil⟩
  have c_plain_step : C8.Cal P w K mg base 5 "plain_step" (sp_plain_step CP) [] := ⟨_, _, _, _, ok_plain_step F34 TC c_is_dual m_Player_look m_Player_down m_Player_up, PySem.W.mg_of X G a34, k34, b34, .nil⟩
  have c_choice_at : C8.Cal P w K mg base 4 "choice_at" (sp_choice_at CP) [] := ⟨_, _, _, _, ok_choice_at F35 c_is_dual c_decider_of m_Player_look, PySem.W.mg_of X G a35, k35, b35, .nil⟩
  have m_Way_play : C8.Met P w K mg base 6 CW "play" (sp_Way_play CW CP) [] := ⟨_, _, _, _, clCW, ⟨a36, i36, k36⟩, ok_Way_play F36 TW c_plain_step, b36, .nil⟩
  have m_Way_turned : C8.Met P w K mg base 5 CW "turned" (sp_Way_turned CW CP) [] := ⟨_, _, _, _, clCW, ⟨a37, i37, k37⟩, ok_Way_turned F37 TW c_lifted_numbers m_Way m_Player_copy m_Player_down, b37, .nil⟩
  have c_ways_of : C8.Cal P w K mg base 7 "ways_of" (sp_ways_of CW CP) [] := ⟨_, _, _, _, ok_ways_of F38 B TC TW c_choice_at m_Way_play m_Way_turned c_press_bound, PySem.W.mg_of X G a38, k38, b38, .nil⟩
  have c_require_keys : C8.Cal P w K mg base 2 "require_keys" sp_require_keys [] := ⟨_, _, _, _, ok_require_keys F39 B c_is_integer, PySem.W.mg_of X G a39, k39, b39, .nil⟩
  have c_require_arguments : C8.Cal P w K mg base 7 "require_arguments" sp_require_arguments [] := ⟨_, _, _, _, ok_require_arguments F40 B TC c_require_layout c_require_record c_require_keys c_is_integer, PySem.W.mg_of X G a40, k40, b40, .nil⟩
  have c_arrivals : C8.Cal P w K mg base 10 "arrivals" sp_arrivals [] := ⟨_, _, _, _, ok_arrivals F41 B TW c_merged_rows c_arrival_bounds c_lifted_numbers c_ways_of m_Way m_Player, PySem.W.mg_of X G a41, k41, b41, .nil⟩
  have c_delays_for : C8.Cal P w K mg base 11 "delays_for" sp_delays_for [] := ⟨_, _, _, _, ok_delays_for F42 B c_require_arguments c_arrivals, PySem.W.mg_of X G a42, k42, b42, .nil⟩
  have c_safe_late : C8.Cal P w K mg base 11 "safe_late" sp_safe_late [] := ⟨_, _, _, _, ok_safe_late F43 B c_require_arguments c_arrivals c_flat, PySem.W.mg_of X G a43, k43, b43, .nil⟩
  have c_margins : C8.Cal P w K mg base 6 "margins" sp_margins [] := ⟨_, _, _, _, ok_margins F44 B c_steps_of c_is_dual c_decider_of, PySem.W.mg_of X G a44, k44, b44, .nil⟩
  have c_slack : C8.Cal P w K mg base 7 "slack" sp_slack [] := ⟨_, _, _, _, ok_slack F45 B c_require_layout c_require_record c_margins, PySem.W.mg_of X G a45, k45, b45, .nil⟩
  have c_late_results : C8.Cal P w K mg base 11 "late_results" sp_late_results [] := ⟨_, _, _, _, ok_late_results F46 B c_require_arguments c_arrivals, PySem.W.mg_of X G a46, k46, b46, .nil⟩
  have c__law_pool : C8.Cal P w K mg base 1 "_law_pool" (sp_law_pool K) [] := ⟨_, _, _, _, ok_law_pool F47 B, PySem.W.mg_of X G a47, k47, b47, .nil⟩
  have c__law_draw : C8.Cal P w K mg base 1 "_law_draw" sp_law_draw [] := ⟨_, _, _, _, ok_law_draw F48 , PySem.W.mg_of X G a48, k48, b48, .nil⟩
  have c__law_action : C8.Cal P w K mg base 2 "_law_action" sp_law_action [] := ⟨_, _, _, _, ok_law_action F49 c__law_draw, PySem.W.mg_of X G a49, k49, b49, .nil⟩
  have c__law_layout : C8.Cal P w K mg base 3 "_law_layout" sp_law_layout [] := ⟨_, _, _, _, ok_law_layout F50 B c__law_draw c__law_action, PySem.W.mg_of X G a50, k50, b50, .nil⟩
  have c__law_far : C8.Cal P w K mg base 1 "_law_far" sp_law_far [] := ⟨_, _, _, _, ok_law_far F51 B, PySem.W.mg_of X G a51, k51, b51, .nil⟩
  have c__law_timed : C8.Cal P w K mg base 2 "_law_timed" sp_law_timed [] := ⟨_, _, _, _, ok_law_timed F52 c__law_draw, PySem.W.mg_of X G a52, k52, b52, .nil⟩
  have c__law_order : C8.Cal P w K mg base 2 "_law_order" sp_law_order [] := ⟨_, _, _, _, ok_law_order F53 B c__law_draw, PySem.W.mg_of X G a53, k53, b53, .nil⟩
  have c__law_right : C8.Cal P w K mg base 12 "_law_right" sp_law_right [] := ⟨_, _, _, _, ok_law_right F54 B c_flat c_late_results c_delays_for c_safe_late c__law_far c_slack, PySem.W.mg_of X G a54, k54, b54, .nil⟩
  exact ok_law F55 B c__law_pool c__law_draw c__law_layout c__law_order c__law_timed c__law_right c_safe_late
end HT8
end partJ1
set_option Elab.async false
set_option linter.all false
set_option maxRecDepth 100000
namespace HT8
open PySem PySem.Spec PyProof.Rows L2 HT5 HT6 HT7
theorem walk {l : PySem.W.OpenLaw} {q : Program} {loose : List PySem.Str} {XP : (PySem.Str → Option Value) → Heap → Prop} {YP : World → Heap → Prop} {d : DefRec} {K : Params → PySem.W.Frag} (hn : l.most = some 63) (hdf : d.params.defaults = [])
    (hY : ∀ (w : World) (h : Heap), YP w h → (K w.params).In h)
    (F : ∀ (w : World) (mg : PySem.Str → Option Value) (fa : Addr) (h : Heap), (K w.params).In h → h.Ns mainGlobals mg → mg d.name = some (.ref fa) →
      ∃ fd : FuncData, (∀ (s : Shared) (u : Value), BindsTo s fd ⟨[u], []⟩ [("_law_script", u)]) ∧ ∀ base : Heap, (K w.params).In base → base.Ns mainGlobals mg → FnOk l.prog w (K w.params) mg base CX0 13 fa fd ["_law_script"] (sp_law (K w.params))) :
    PySem.W.WalkO q loose XP YP l.row.toRowW d [] (fun f vs => PySem.call f vs) :=
  L2.walk_of (n := 63) (k := 13) (x := "_law_script") (CX := fun _ => CX0) (sp := fun w => sp_law (K w.params)) hn (by decide) hdf ⟨rfl, by decide, by decide⟩ hY F (fun _ _ a ns hl _ hS => ⟨a, ns, rfl, hS, hl, sound_all ns, fun _ _ => rfl⟩) fun _ _ _ _ _ z => z
end HT8
open PySem PySem.W PyProof.Rows
set_option maxRecDepth 100000 in
set_option maxHeartbeats 0 in
theorem PySem.Challenge.cw_holdtap_k56_whole_late_halves_holds : PySem.Challenge.rw_holdtap_k56_whole_late_halves.Holds := by
  w_on; o_law; k_head; (case hw => w_witness2)
  k_fill
  refine HT8.walk (l := PySem.Challenge.rw_holdtap_k56_whole_late_halves) rfl rfl (fun w h Y => PySem.W.kIn_of Y) ?F
  case F =>
    intro w mg fa h KX G hmg0
    have hmg : mg "law" = some (.ref fa) := hmg0
    clear hmg0
    refine' HT8.all_mk KX G hmg ?a1 ?l1 ?c1 ?k1 ?a2 ?l2 ?c2 ?k2 ?a3 ?l3 ?c3 ?k3 ?a4 ?l4 ?c4 ?k4 ?a5 ?l5 ?c5 ?k5 ?a6 ?l6 ?c6 ?k6 ?a7 ?l7 ?c7 ?k7 ?a8 ?l8 ?c8 ?k8 ?a9 ?l9 ?c9 ?k9 ?a10 ?l10 ?c10 ?k10 ?a11 ?l11 ?c11 ?k11 ?a12 ?l12 ?c12 ?k12 ?a13 ?l13 ?c13 ?k13 ?a14 ?l14 ?c14 ?k14 ?a15 ?l15 ?c15 ?k15 ?a16 ?i16 ?l16 ?c16 ?k16 ?a17 ?i17 ?l17 ?c17 ?k17 ?a18 ?i18 ?l18 ?c18 ?k18 ?a19 ?i19 ?l19 ?c19 ?k19 ?a20 ?i20 ?l20 ?c20 ?k20 ?a21 ?i21 ?l21 ?c21 ?k21 ?a22 ?i22 ?l22 ?c22 ?k22 ?a23 ?l23 ?c23 ?k23 ?a24 ?l24 ?c24 ?k24 ?a25 ?l25 ?c25 ?k25 ?a26 ?l26 ?c26 ?k26 ?a27 ?l27 ?c27 ?k27 ?a28 ?l28 ?c28 ?k28 ?a29 ?l29 ?c29 ?k29 ?a30 ?l30 ?c30 ?k30 ?a31 ?l31 ?c31 ?k31 ?a32 ?l32 ?c32 ?k32 ?a33 ?i33 ?l33 ?c33 ?k33 ?a34 ?l34 ?c34 ?k34 ?a35 ?l35 ?c35 ?k35 ?a36 ?i36 ?l36 ?c36 ?k36 ?a37 ?i37 ?l37 ?c37 ?k37 ?a38 ?l38 ?c38 ?k38 ?a39 ?l39 ?c39 ?k39 ?a40 ?l40 ?c40 ?k40 ?a41 ?l41 ?c41 ?k41 ?a42 ?l42 ?c42 ?k42 ?a43 ?l43 ?c43 ?k43 ?a44 ?l44 ?c44 ?k44 ?a45 ?l45 ?c45 ?k45 ?a46 ?l46 ?c46 ?k46 ?a47 ?l47 ?c47 ?k47 ?a48 ?l48 ?c48 ?k48 ?a49 ?l49 ?c49 ?k49 ?a50 ?l50 ?c50 ?k50 ?a51 ?l51 ?c51 ?k51 ?a52 ?l52 ?c52 ?k52 ?a53 ?l53 ?c53 ?k53 ?a54 ?l54 ?c54 ?k54 ?a55 ?l55 ?c55 ?k55 ?aCP ?pgCP ?hdCP ?poCP ?saCP ?mkCP ?kcCP ?nCP0 ?nCP1 ?nCP2 ?nCP3 ?aCW ?pgCW ?hdCW ?poCW ?saCW ?mkCW ?kcCW ?nCW0 ?nCW1 ?nCW2 ?nCW3 ?nCW4 ?z_len ?z_isinstance ?z_all ?z_any ?z_abs ?z_max ?z_min ?z_int ?z_bool ?z_str ?z_list ?z_tuple ?z_dict ?z_range ?z_enumerate ?z_zip ?z_sorted ?hT ?aR ?lR ?zR ?vR
    (case a1 => k_is)
    (case l1 => k_is)
    (case c1 => k_is)
    (case k1 => k_is)
    (case a2 => k_is)
    (case l2 => k_is)
    (case c2 => k_is)
    (case k2 => k_is)
    (case a3 => k_is)
    (case l3 => k_is)
    (case c3 => k_is)
    (case k3 => k_is)
    (case a4 => k_is)
    (case l4 => k_is)
    (case c4 => k_is)
    (case k4 => k_is)
    (case a5 => k_is)
    (case l5 => k_is)
    (case c5 => k_is)
    (case k5 => k_is)
    (case a6 => k_is)
    (case l6 => k_is)
    (case c6 => k_is)
    (case k6 => k_is)
    (case a7 => k_is)
    (case l7 => k_is)
    (case c7 => k_is)
    (case k7 => k_is)
    (case a8 => k_is)
    (case l8 => k_is)
    (case c8 => k_is)
    (case k8 => k_is)
    (case a9 => k_is)
    (case l9 => k_is)
    (case c9 => k_is)
    (case k9 => k_is)
    (case a10 => k_is)
    (case l10 => k_is)
    (case c10 => k_is)
    (case k10 => k_is)
    (case a11 => k_is)
    (case l11 => k_is)
    (case c11 => k_is)
    (case k11 => k_is)
    (case a12 => k_is)
    (case l12 => k_is)
    (case c12 => k_is)
    (case k12 => k_is)
    (case a13 => k_is)
    (case l13 => k_is)
    (case c13 => k_is)
    (case k13 => k_is)
    (case a14 => k_is)
    (case l14 => k_is)
    (case c14 => k_is)
    (case k14 => k_is)
    (case a15 => k_is)
    (case l15 => k_is)
    (case c15 => k_is)
    (case k15 => k_is)
    (case a16 => k_is)
    (case i16 => k_is)
    (case l16 => k_is)
    (case c16 => k_is)
    (case k16 => k_is)
    (case a17 => k_is)
    (case i17 => k_is)
    (case l17 => k_is)
    (case c17 => k_is)
    (case k17 => k_is)
    (case a18 => k_is)
    (case i18 => k_is)
    (case l18 => k_is)
    (case c18 => k_is)
    (case k18 => k_is)
    (case a19 => k_is)
    (case i19 => k_is)
    (case l19 => k_is)
    (case c19 => k_is)
    (case k19 => k_is)
    (case a20 => k_is)
    (case i20 => k_is)
    (case l20 => k_is)
    (case c20 => k_is)
    (case k20 => k_is)
    (case a21 => k_is)
    (case i21 => k_is)
    (case l21 => k_is)
    (case c21 => k_is)
    (case k21 => k_is)
    (case a22 => k_is)
    (case i22 => k_is)
    (case l22 => k_is)
    (case c22 => k_is)
    (case k22 => k_is)
    (case a23 => k_is)
    (case l23 => k_is)
    (case c23 => k_is)
    (case k23 => k_is)
    (case a24 => k_is)
    (case l24 => k_is)
    (case c24 => k_is)
    (case k24 => k_is)
    (case a25 => k_is)
    (case l25 => k_is)
    (case c25 => k_is)
    (case k25 => k_is)
    (case a26 => k_is)
    (case l26 => k_is)
    (case c26 => k_is)
    (case k26 => k_is)
    (case a27 => k_is)
    (case l27 => k_is)
    (case c27 => k_is)
    (case k27 => k_is)
    (case a28 => k_is)
    (case l28 => k_is)
    (case c28 => k_is)
    (case k28 => k_is)
    (case a29 => k_is)
    (case l29 => k_is)
    (case c29 => k_is)
    (case k29 => k_is)
    (case a30 => k_is)
    (case l30 => k_is)
    (case c30 => k_is)
    (case k30 => k_is)
    (case a31 => k_is)
    (case l31 => k_is)
    (case c31 => k_is)
    (case k31 => k_is)
    (case a32 => k_is)
    (case l32 => k_is)
    (case c32 => k_is)
    (case k32 => k_is)
    (case a33 => k_is)
    (case i33 => k_is)
    (case l33 => k_is)
    (case c33 => k_is)
    (case k33 => k_is)
    (case a34 => k_is)
    (case l34 => k_is)
    (case c34 => k_is)
    (case k34 => k_is)
    (case a35 => k_is)
    (case l35 => k_is)
    (case c35 => k_is)
    (case k35 => k_is)
    (case a36 => k_is)
    (case i36 => k_is)
    (case l36 => k_is)
    (case c36 => k_is)
    (case k36 => k_is)
    (case a37 => k_is)
    (case i37 => k_is)
    (case l37 => k_is)
    (case c37 => k_is)
    (case k37 => k_is)
    (case a38 => k_is)
    (case l38 => k_is)
    (case c38 => k_is)
    (case k38 => k_is)
    (case a39 => k_is)
    (case l39 => k_is)
    (case c39 => k_is)
    (case k39 => k_is)
    (case a40 => k_is)
    (case l40 => k_is)
    (case c40 => k_is)
    (case k40 => k_is)
    (case a41 => k_is)
    (case l41 => k_is)
    (case c41 => k_is)
    (case k41 => k_is)
    (case a42 => k_is)
    (case l42 => k_is)
    (case c42 => k_is)
    (case k42 => k_is)
    (case a43 => k_is)
    (case l43 => k_is)
    (case c43 => k_is)
    (case k43 => k_is)
    (case a44 => k_is)
    (case l44 => k_is)
    (case c44 => k_is)
    (case k44 => k_is)
    (case a45 => k_is)
    (case l45 => k_is)
    (case c45 => k_is)
    (case k45 => k_is)
    (case a46 => k_is)
    (case l46 => k_is)
    (case c46 => k_is)
    (case k46 => k_is)
    (case a47 => k_is)
    (case l47 => k_is)
    (case c47 => k_is)
    (case k47 => k_is)
    (case a48 => k_is)
    (case l48 => k_is)
    (case c48 => k_is)
    (case k48 => k_is)
    (case a49 => k_is)
    (case l49 => k_is)
    (case c49 => k_is)
    (case k49 => k_is)
    (case a50 => k_is)
    (case l50 => k_is)
    (case c50 => k_is)
    (case k50 => k_is)
    (case a51 => k_is)
    (case l51 => k_is)
    (case c51 => k_is)
    (case k51 => k_is)
    (case a52 => k_is)
    (case l52 => k_is)
    (case c52 => k_is)
    (case k52 => k_is)
    (case a53 => k_is)
    (case l53 => k_is)
    (case c53 => k_is)
    (case k53 => k_is)
    (case a54 => k_is)
    (case l54 => k_is)
    (case c54 => k_is)
    (case k54 => k_is)
    (case a55 => k_is)
    (case l55 => k_is)
    (case c55 => k_is)
    (case k55 => k_is)
    (case aCP => k_is)
    (case pgCP => k_is)
    (case hdCP => k_is)
    (case poCP => k_is)
    (case saCP => k_is)
    (case mkCP => k_is)
    (case kcCP => k_is)
    (case nCP0 => k_is)
    (case nCP1 => k_is)
    (case nCP2 => k_is)
    (case nCP3 => k_is)
    (case aCW => k_is)
    (case pgCW => k_is)
    (case hdCW => k_is)
    (case poCW => k_is)
    (case saCW => k_is)
    (case mkCW => k_is)
    (case kcCW => k_is)
    (case nCW0 => k_is)
    (case nCW1 => k_is)
    (case nCW2 => k_is)
    (case nCW3 => k_is)
    (case nCW4 => k_is)
    (case z_len => k_is)
    (case z_isinstance => k_is)
    (case z_all => k_is)
    (case z_any => k_is)
    (case z_abs => k_is)
    (case z_max => k_is)
    (case z_min => k_is)
    (case z_int => k_is)
    (case z_bool => k_is)
    (case z_str => k_is)
    (case z_list => k_is)
    (case z_tuple => k_is)
    (case z_dict => k_is)
    (case z_range => k_is)
    (case z_enumerate => k_is)
    (case z_zip => k_is)
    (case z_sorted => k_is)
    case hT =>
      refine' ⟨⟨_, PySem.W.mg_of KX G ?v1, ?r1⟩, ⟨_, PySem.W.mg_of KX G ?v2, ?r2⟩, ⟨_, PySem.W.mg_of KX G ?v3, ?r3⟩, ⟨_, PySem.W.mg_of KX G ?v4, ?r4⟩, ⟨_, PySem.W.mg_of KX G ?v5, ?r5⟩, ⟨_, PySem.W.mg_of KX G ?v6, ?r6⟩, ⟨_, PySem.W.mg_of KX G ?v7, ?r7⟩⟩
      (case v1 => k_is)
      (case r1 => exact ⟨_, rfl⟩)
      (case v2 => k_is)
      (case r2 => exact ⟨_, rfl⟩)
      (case v3 => k_is)
      (case r3 => exact ⟨_, rfl⟩)
      (case v4 => k_is)
      (case r4 => exact ⟨_, rfl⟩)
      (case v5 => k_is)
      (case r5 => exact ⟨_, rfl⟩)
      (case v6 => k_is)
      (case r6 => exact ⟨_, rfl⟩)
      (case v7 => k_is)
      (case r7 => exact ⟨_, rfl⟩)
    (case aR => k_is)
    (case lR => k_is)
    (case zR => decide)
    (case vR => exact .cons ⟨_, rfl⟩ (.cons ⟨_, rfl⟩ (.cons ⟨_, rfl⟩ .nil)))
