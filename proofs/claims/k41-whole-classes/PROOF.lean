import PyProof.Rows.All
import Wide.All
import OpenK.AllK
import Wide.FinOn
import KE.SortData
import KE.KDictCopyH
import HandS.ForMost
import HandS.Deep
import HandS.Conv
import HandS.Sort
import PyProof.MinMaxWalk
import PyProof.WalkInts
import KE.KDictSum
import KE.KDictWalk
import HandS.Style
import HandS.Wide
import HandS.WideBits
import PyProof.ListStr
import PyProof.StrOps2
import KE.KRevSl
import PyProof.Rows.RuleB_pow
import KE.KDictDisplayH
import KE.KDictPairs
import HandS.Strs
import HandS.TupSets
import HandS.OwnEq
import PyProof.InstEq
import HandS.SetIn
import HandS.Flow
import HandS.DictComp
import HandS.IsInst
import HandS.Codes
import HandS.SetFor
import HandS.SetKeys
import HandS.Defaults
import HandS.TryOnly
import HandS.Zip
import HandS.Walk
import KE.KStateDown
import HandS.Head0
import HandS.Head1
import HandS.Head2
import HandS.HeadEnd
import HandS.HeadHook1
import HandS.HeadHook2
import HandS.Star
import PyProof.Rows.SeqMore
import PySem.Challenge.RW_oddlamps_k41_whole_classes_layers_and_fa
set_option Elab.async false
set_option linter.all false
set_option maxRecDepth 100000
set_option maxHeartbeats 4000000
namespace K41
open PySem PySem.Spec PyProof.Rows L2 PySem.W

/-! ### sorted(xs) of data -/
def leD {β : Type} (enc : β → PyData) : β → β → Bool := dataLe false enc
def rSortD (K : PySem.W.Frag) : List V → Hp → VK → Prop := fun xs H Q => ∃ (β : Type) (a : Addr) (bs : List β) (f : β → V) (enc : β → PyData),
  xs = [.ref a] ∧ SqL K H a (bs.map f) ∧ (∀ b ∈ bs, Dp K H (f b) (enc b)) ∧ AllAlike (bs.map enc) ∧ Sortable (bs.map enc) ∧ (∀ b ∈ bs, (enc b).depth ≤ 8) ∧
  ∀ p, H p = none → Q (.ref p) (upd H p (.lst ((bs.mergeSort (leD enc)).map f)))

theorem each_vals {β : Type} {f : β → V} : ∀ {bs : List β} {us : List Value}, Vals (bs.map f) us → EachIs (fun u b => RelV (f b) u) us bs
  | [], us, h => by
    cases h
    exact .nil
  | b :: bs, us, h => by
    cases h with
    | cons r t => exact .cons r (each_vals t)
theorem vals_each {β : Type} {f : β → V} : ∀ {bs : List β} {us : List Value}, EachIs (fun u b => RelV (f b) u) us bs → Vals (bs.map f) us
  | [], us, h => by
    cases h
    exact .nil
  | b :: bs, us, h => by
    cases h with
    | cons r t => exact .cons r (vals_each t)
theorem each_reads {X : Cx} {pins : List (Addr × Obj)} {σ : L2.St} {H : Hp} {s : Shared} (I : Inv X pins σ H s) {β : Type} {f : β → V} {enc : β → PyData} :
    ∀ {bs : List β} {us : List Value}, (∀ b ∈ bs, Dp X.K H (f b) (enc b)) → Vals (bs.map f) us → EachIs (fun v b => ∃ as, Reads s.heap v (enc b) as) us bs
  | [], us, _, h => by
    cases h
    exact .nil
  | b :: bs, us, hd, h => by
    cases h with
    | cons r t => exact .cons (Dp.reads I (enc b) (f b) _ (hd b List.mem_cons_self) r) (each_reads I (fun c hc => hd c (List.mem_cons_of_mem _ hc)) t)
section
variable {X : Cx}
theorem cr_sortD (hu : X.A.units + 100 < cLine) : CallR X (.builtin "sorted") (rSortD X.K) := by
  intro pins s σ H xs us Q I r q
  obtain ⟨β, a, bs, f, enc, rfl, hs, hd, hal, hk, hz, q⟩ := q
  obtain ⟨u, rfl, ru⟩ := vals1 r
  obtain rfl : u = Value.ref a := ru
  obtain ⟨its, rv, hl, hlen⟩ := I.list hs
  rw [List.length_map] at hlen
  refine sorted_data (enc := enc) hl.isList (each_vals rv) (each_reads I hd rv) hal hk hlen (fun b hb => by have := hz b hb; omega) fun out ho he => ?_
  have vo := vals_each he
  obtain ⟨e, hat⟩ := sortedAll_at s.heap its out.toArray
  refine ⟨.ref (s.heap.objs.size + 1), upd H (s.heap.objs.size + 1) (.lst ((bs.mergeSort (leD enc)).map f)), I.laid (t' := s.toks) (fun b o hb => sortedAll_old hb) (Nat.le_succ _) ⟨?_, out, e, vo, hat⟩, rfl, q _ (I.hok.fresh (Nat.le_succ _))⟩
  rw [List.length_map]
  show (bs.mergeSort _).length ≤ sizeLine
  rw [List.length_mergeSort]
  exact hlen
end
end K41
namespace K41
open PySem PySem.Spec PyProof.Rows L2 PySem.W PySem.Calls

/-! ### sorting tuples, the empty one among them -/
def nonE : PyData → Bool
  | .tuple (_ :: _) => true
  | _ => false
section
variable {prog : Program} {w : World} {A : Around} {s : Shared}
theorem oneLt_tups {f : Bool} {xs ys : List PyData} {a b : Value} {as bs : List Addr} {E : Value → Shared → Prop} {Q : Bool → Shared → Prop} (ra : Reads s.heap a (.tuple xs) as) (rb : Reads s.heap b (.tuple ys) bs)
    (hal : alikeAll xs ys = true) (hu : A.units + min (PyData.depth (.tuple xs)) (PyData.depth (.tuple ys)) < cLine) (hq : Q (dataLt (.tuple xs) (.tuple ys)) s) : wpAny (model prog w) A (oneLt' f a b) Q E s := by
  cases f with
  | false => exact oneLt_alike (fun z => by cases z) ra rb (by simpa [alike] using hal) (fun z => by cases z) hu hq
  | true =>
    cases ra with
    | @tuple l o vs n _ as₁ h1 h2 h3 h4 =>
      cases rb with
      | @tuple l' o' vs' n' _ bs₁ k1 k2 k3 k4 =>
        have n1 : vs.size = xs.length := by simpa using SeqAt.ReadsAll.length _ _ _ h4
        have n2 : vs'.size = ys.length := by simpa using SeqAt.ReadsAll.length _ _ _ k4
        rw [dataLt_tuple, ← firstLt_toks xs ys hal, ← n1, ← n2] at hq
        obtain ⟨cls, dd, data, sl⟩ := o
        obtain ⟨cls2, dd2, data2, sl2⟩ := o'
        simp only at h2 h3 k2 k3
        subst h2 h3 k2 k3
        rw [oneLt'_eq]
        simp only [if_true]
        refine wpAny_bind (wpAny_cRoomFor (SeqAt.room_here hu) ?_)
        refine wpAny_bind (wpAny_callSpecialIfBound?_slot (T := "tuple") ⟨_, h1, rfl⟩ F.slot_tuple_lt
          (call_meets F.slot_tuple_lt ⟨_, h1, rfl⟩ F.entry_tuple_lt (F.args_tuple_lt_2 _ _) (SeqAt.tuple_ltAt l l' vs vs' n n' dd dd2 sl sl2 (SeqAt.pairEq xs ys) (fun j => dataLt (xs.getD j .none) (ys.getD j .none))) ⟨h1, k1, fun j j1 j2 => ?_, fun j j1 j2 hj => ?_, ?_⟩))
        · have q := eqAt_alikeAll xs ys A.in1 s vs.toList vs'.toList _ _ h4 k4 hal (SeqAt.room_in hu) j (by simpa using j1) (by simpa using j2)
          simpa using q
        · have q := rcLt_alikeAll xs ys A.in1 s vs.toList vs'.toList _ _ h4 k4 hal (SeqAt.room_in hu) j (by simpa using j1) (by simpa using j2) hj
          simpa using q
        · exact wpAny_truthy_bool hq
theorem first_tup {M : Model} {E : Value → Shared → Prop} {v : Value} {xs : List PyData} {as : List Addr} (r : Reads s.heap v (.tuple xs) as) :
    ∃ o : Option Value, o.isSome = nonE (.tuple xs) ∧ ∀ Q : Option Value → Shared → Prop, Q o s → wpAny M A (firstOfTuple' v) Q E s := by
  cases r with
  | @tuple l o vs n _ as₁ h1 h2 h3 h4 =>
    refine ⟨vs[0]?, ?_, fun Q hq => ?_⟩
    · have n1 : vs.toList.length = xs.length := SeqAt.ReadsAll.length _ _ _ h4
      cases xs with
      | nil =>
        have e : vs.size = 0 := by simpa using n1
        show vs[0]?.isSome = false
        rw [Array.getElem?_eq_none (by omega)] <;> rfl
      | cons x r =>
        have e : vs.size = r.length + 1 := by simpa using n1
        show vs[0]?.isSome = true
        rw [Array.getElem?_eq_getElem (by omega)] <;> rfl
    · rw [kas_first_eq]
      refine wpAny_bind (Looks.here (show Looks M s.heap (typeOf (.ref l)) o.cls from (Looks.ld h1).andThen .now) ?_)
      rw [h2, if_neg (by decide)]
      exact wpAny_bind (listItems_at h1 h3 (wpAny_pure hq))
theorem firsts_tups {M : Model} {E : Value → Shared → Prop} : ∀ {vs : List Value} {ds : List PyData}, EachIs (fun v d => ∃ as, Reads s.heap v d as) vs ds → (∀ d ∈ ds, ∃ xs, d = .tuple xs) →
    ∃ fs : List (Option Value), fs.map Option.isSome = ds.map nonE ∧ ∀ Q : List (Option Value) → Shared → Prop, Q fs s → wpAny M A (vs.mapM firstOfTuple') Q E s
  | _, _, .nil, _ => ⟨[], rfl, fun Q hq => by rw [List.mapM_nil]; exact wpAny_pure hq⟩
  | _, _, .cons (b := d) ⟨as, r⟩ t, ht => by
    obtain ⟨fs, e, h⟩ := firsts_tups (M := M) (E := E) t fun d hd => ht d (List.mem_cons_of_mem _ hd)
    obtain ⟨xs, rfl⟩ := ht d List.mem_cons_self
    obtain ⟨o, e1, h1⟩ := first_tup (M := M) (E := E) (A := A) r
    refine ⟨o :: fs, by rw [List.map_cons, List.map_cons, e, e1], fun Q hq => ?_⟩
    rw [List.mapM_cons]
    exact wpAny_bind (h1 _ (wpAny_bind (h _ (wpAny_pure hq))))
theorem sorts_tups {vs : List Value} {ds : List PyData} (e : EachIs (fun v d => ∃ as, Reads s.heap v d as) vs ds) (hal : AllAlike ds) (ht : ∀ d ∈ ds, ∃ xs, d = .tuple xs) (hu : ∀ d, d ∈ ds → A.units + d.depth < cLine) :
    SortsAt prog w A s (dataKind s.heap ds) vs := by
  by_cases hall : ∀ d, d ∈ ds → ∃ x r, d = .tuple (x :: r)
  · exact SortsAt.data e hal (.inl hall) hu
  have room : ∀ {d d' : PyData}, d ∈ ds → A.units + min d.depth d'.depth < cLine := fun {d d'} hd => Nat.lt_of_le_of_lt (Nat.add_le_add_left (Nat.min_le_left _ _) _) (hu d hd)
  have lt : ∀ (f : Bool) (E : Value → Shared → Prop) (x y : Value) (a b : List (Int ⊕ List Nat)) (Q : Bool → Shared → Prop), (dataKind s.heap ds).keyOf x = some a → (dataKind s.heap ds).keyOf y = some b → Q (PyProof.Rows.lexLt itemOrd a b) s → wpAny (model prog w) A (oneLt' f x y) Q E s := by
    intro f E x y a b Q ha hb hq
    obtain ⟨d, as, hd, ra, rfl⟩ := dataKind_inv ha
    obtain ⟨d', bs, hd', rb, rfl⟩ := dataKind_inv hb
    have hdd := hal d hd d' hd'
    have hroom := room (d' := d') hd
    obtain ⟨xs, rfl⟩ := ht d hd
    obtain ⟨ys, rfl⟩ := ht d' hd'
    exact oneLt_tups ra rb (by simpa [alike] using hdd) hroom hq
  refine ⟨fun v hv => ?_, ?_⟩
  · obtain ⟨d, hd, as, r⟩ := e.left v hv
    exact ⟨_, dataKind_some hal hd r⟩
  · cases ds with
    | nil => exact absurd (fun d hd => by cases hd) hall
    | cons d₀ ds₀ =>
      have hno : ((d₀ :: ds₀).map nonE).all id = false := by
        cases q : ((d₀ :: ds₀).map nonE).all id with
        | false => rfl
        | true =>
          refine absurd (fun d hd => ?_) hall
          have q1 := List.all_eq_true.mp q (nonE d) (List.mem_map.mpr ⟨d, hd, rfl⟩)
          obtain ⟨xs, rfl⟩ := ht d hd
          cases xs with
          | nil => cases q1
          | cons x r => exact ⟨x, r, rfl⟩
      refine ⟨if nonE d₀ = true then general' else oneType', ?_, fun h2 E Q hq => ?_⟩
      · intro E x y a b Q ha hb hq
        by_cases h0 : nonE d₀ = true
        · rw [if_pos h0]
          exact lt false E x y a b Q ha hb hq
        · rw [if_neg h0]
          exact lt true E x y a b Q ha hb hq
      · obtain ⟨fs, ef, hf⟩ := firsts_tups (M := model prog w) (E := E) (A := A) e ht
        have hfa : ¬ (fs.toArray.all fun x => x.isSome) = true := by
          rw [List.all_toArray]
          intro z
          have z2 : (fs.map Option.isSome).all id = true := by
            rw [List.all_map]
            exact z
          rw [ef, hno] at z2
          cases z2
        have hf0 : (fs.toArray[0]?.bind id).isSome = nonE d₀ := by
          cases fs with
          | nil => cases ef
          | cons f fr =>
            rw [List.map_cons, List.map_cons] at ef
            have e1 := (List.cons.inj ef).1
            rw [← e1]
            simp
        rw [keyKind'_eq, List.mapM_toArray, map_eq_pure_bind]
        refine wpAny_bind (wpAny_bind (hf _ (wpAny_pure ?_)))
        rw [if_neg hfa]
        by_cases h0 : nonE d₀ = true
        · rw [if_pos h0] at hq
          rw [if_pos (by rw [hf0]; exact h0)]
          exact wpAny_pure hq
        · rw [if_neg h0] at hq
          rw [if_neg (by rw [hf0]; exact h0)]
          have hT : ∀ v ∈ vs, Looks (model prog w) s.heap (typeOf v) (Value.type "tuple") := fun v hv => by
            obtain ⟨d, hd, as, r⟩ := e.left v hv
            obtain ⟨xs, rfl⟩ := ht d hd
            exact looks_reads r
          rw [oneTypeOnly'_eq, List.mapM_toArray, map_eq_pure_bind]
          refine wpAny_bind (wpAny_bind (wpAny_bind (kas_mapM (r := Value.type "tuple") _ (fun v hv Q' hq => (hT v hv).here hq) (wpAny_pure ?_))))
          have hall2 : ((List.map (fun _ => Value.type "tuple") vs).toArray.all fun x => x == Value.type "tuple") = true := by
            simp only [List.all_toArray, List.all_map, List.all_eq_true]
            intro _ _
            rfl
          have h1 : (List.map (fun _ => Value.type "tuple") vs).toArray[0]? = some (Value.type "tuple") := by
            cases vs with
            | nil => simp at h2
            | cons v r => simp
          rw [h1]
          simp only [hall2, if_true]
          exact wpAny_pure (wpAny_pure hq)
end
end K41
namespace K41
open PySem PySem.Spec PyProof.Rows L2 PySem.W PySem.Calls
section
variable {X : Cx}
/-! ### a made dict is locked for good -/
theorem pe_frz {e : Expr} {t : TE} (h : PE X e t) : PE X e (fun σ H Q => t σ H fun v H1 => ∃ d u, v = .ref d ∧ H1 d = some u ∧ Mut (some u) ∧ ∀ od, Q v (upd H1 d (.frz od u))) := by
  refine ⟨fun pins s σ H Q I q => ?_⟩
  refine thn (h.run pins s σ H _ I q) fun v s1 ⟨x, H1, I1, rx, d, u, ex, hd, mu, q1⟩ => ?_
  obtain ⟨od, I2⟩ := I1.lock hd mu
  exact ⟨x, _, I2, rx, q1 od⟩

/-! ### a dict with tuple keys, as its entries -/
theorem dT_raw {pins : List (Addr × Obj)} {σ : L2.St} {H : Hp} {s : Shared} {d : Addr} {kvs : List (List Key × V)} (I : Inv X pins σ H s) (hd : Rd H d (.dT kvs)) :
    kvs.length ≤ sizeLine ∧ (d == sysModules) = false ∧ ∃ es ep, s.heap.DictRaw d es ep ∧ es.size = kvs.length ∧
      ∀ (i : Nat) (hi : i < es.size), ∃ (k : List Key) (v : V) (b : Addr), kvs[i]? = some (k, v) ∧ es[i].key = .ref b ∧ H b = some (.tup (k.map kV)) ∧ RelV v es[i].val := by
  obtain ⟨z, hs, ks, pr, o, es, ep, ho, hx, hdt, he, hn⟩ := (show ObjOk X.prog X.w H s.heap d (.dT kvs) from hd.ok I.hok)
  have l1 : es.size = ks.length := by
    have e := congrArg List.length he
    rw [Array.length_toList, List.length_map] at e
    exact e
  have l2 : kvs.length = ks.length := Paired.length pr
  refine ⟨z, hs, es, ep, ⟨o, ho, hx, hdt⟩, by omega, fun i hi => ?_⟩
  have hk : i < ks.length := by omega
  have hkv : i < kvs.length := by omega
  have e1 : es[i] = entryOfKey (tupleKind (mixKind X.prog X.w)) ks[i] := by
    have q : es.toList[i]? = (ks.map (entryOfKey (tupleKind (mixKind X.prog X.w))))[i]? := by rw [he]
    rw [List.getElem?_map, List.getElem?_eq_getElem hk, Array.getElem?_toList, Array.getElem?_eq_getElem hi] at q
    exact Option.some.inj q
  have pg : ∀ {κ : List (List Key × V)} {ξ : List (List Key × Addr × Value)}, Paired (fun (p : List Key × V) (q : List Key × Addr × Value) => p.1 = q.1 ∧ H q.2.1 = some (.tup (p.1.map kV)) ∧ RelV p.2 q.2.2) κ ξ → ∀ (j : Nat) (y : List Key × Addr × Value), ξ[j]? = some y → ∃ x, κ[j]? = some x ∧ x.1 = y.1 ∧ H y.2.1 = some (.tup (x.1.map kV)) ∧ RelV x.2 y.2.2 := by
    intro κ ξ h
    induction h with
    | nil => intro j y e; cases e
    | cons h t ih =>
      intro j y e
      cases j with
      | zero =>
        cases e
        exact ⟨_, rfl, h⟩
      | succ j => exact ih j y e
  obtain ⟨x, h1, h2, h3, h4⟩ := pg pr i _ (List.getElem?_eq_getElem hk)
  obtain ⟨k, v⟩ := x
  exact ⟨k, v, ks[i].2.1, h1, by rw [e1] <;> rfl, h3, by rw [e1]; exact h4⟩

/-! ### list(d.values()) -/
def tListVals (te : TE) : TE := fun σ H Q => te σ H fun x H1 => ∃ d kvs, x = V.ref d ∧ Rd H1 d (.dT kvs) ∧ ∀ p, H1 p = none → Q (.ref p) (upd H1 p (.lst (kvs.map (·.2))))
theorem vals_ix : ∀ {xs : List V} {us : List Value}, xs.length = us.length → (∀ (i : Nat) (u : Value), us[i]? = some u → ∃ x, xs[i]? = some x ∧ RelV x u) → Vals xs us
  | [], [], _, _ => .nil
  | x :: xs, u :: us, hl, h => by
    obtain ⟨y, e, r⟩ := h 0 u rfl
    cases e
    exact .cons r (vals_ix (Nat.succ.inj hl) fun i v e => h (i + 1) v e)
  | [], _ :: _, hl, _ => by cases hl
  | _ :: _, [], hl, _ => by cases hl
variable {e : Expr} {te : TE} {p apos cpos pos : Pos}
theorem pe_listVals (hc : X.calm = true) (he : PE X e te) (hg : Gl X "list") (hm : X.mg "list" = none) (hbase : attributeBase e "values" X.env (eval e X.env) = eval e X.env := by rfl) (hline : (apos.endLine == cpos.line) = true := by rfl)
    (hs : starEach [.Call (.Attribute e "values" apos) [] [] cpos] X.env = (false, eval (.Call (.Attribute e "values" apos) [] [] cpos) X.env) :: starEach [] X.env := by rfl) :
    PE X (.Call (.Name "list" p) [.Call (.Attribute e "values" apos) [] [] cpos] [] pos) (tListVals te) := by
  refine ⟨fun pins s σ H Q I hq => ?_⟩
  refine wpAny_Call_Name_kw (ld_blt I hg hm (u := .type "list") (by decide +kernel) ?_)
  refine PyProof.Rows.callWith_type1 ?_ hs rfl
  rw [hs]
  show wpAny _ _ (spliced ((false, eval (.Call (.Attribute e "values" apos) [] [] cpos) X.env) :: backTo pos (starEach [] X.env))) _ _ s
  refine Calls.spliced_cons ?_
  refine wpAny_Call_method (T := "dict") (id := "dict.values") hbase rfl hline F.plainAttrs_dict F.slot_dict_values F.type_dict_values (thn (he.run pins s σ H _ I hq) fun u s1 ⟨x, H1, I1, rx, d, kvs, ex, hd, q⟩ => ?_)
  subst ex
  obtain rfl : u = Value.ref d := rx
  obtain ⟨hz, hsm, es, ep, raw, hsz, hent⟩ := dT_raw I1 hd
  have I2 : Inv X pins σ H1 { s1 with heap := s1.heap.push { cls := .type "dict_values", data := .fields #[.ref d] } } := I1.kept (t' := s1.toks) fun b ob q => Heap.get?_push_of_some _ q
  refine ⟨raw.typeIs, fun a ea => ?_, ?_⟩
  · cases ea
    obtain ⟨o, ho, hx, _⟩ := raw
    exact ⟨o, ho, hx.2.1⟩
  show wpAny _ _ (callWith cpos (.builtin "dict.values") [.ref d] [] []) _ X.xe s1
  refine method_meetsIn F.slot_dict_values F.entry_dict_values rfl (PySem.evalArgs_none ⟨rfl, raw.typeIs, F.args_dict_values_1 _, _, meets_dict_values_raw d hsm, ⟨es, ep, raw⟩, ?_⟩)
  refine Calls.spliced_nil ?_
  refine PySem.W.kdl_call (KdlSrc.rawValues (r := s1.heap.objs.size) (d := d) (es := es) (ep := ep)) (I1.ok.hd hc) ⟨⟨_, Heap.get?_push_size _ rfl, rfl, rfl⟩, raw.at fun o q => Heap.get?_push_of_some _ q⟩ (by omega) fun h' tk acc c' hk hD hacc => ?_
  have q0 : (kvs.map (·.2)).length = acc.toList.length := by
    have q1 := hacc.1
    have q2 : acc.toList.length = acc.size := by simp
    rw [List.length_map]
    omega
  have hv : Vals (kvs.map (·.2)) acc.toList := vals_ix q0 fun i u eu => by
    obtain ⟨hi, ev⟩ := hacc.2 i u (by rw [← Array.getElem?_toList]; exact eu)
    obtain ⟨k, v, b, h1, _, _, h4⟩ := hent i hi
    exact ⟨v, by rw [List.getElem?_map, h1] <;> rfl, by rw [ev]; exact h4⟩
  exact ⟨.ref _, _, I2.laid (t' := tk) (o := .lst (kvs.map (·.2))) hk (Nat.le_refl _) ⟨by rw [List.length_map]; exact hz, acc.toList, c', hv, by rw [Array.toArray_toList]; exact hD⟩, rfl, q _ (I2.hok.fresh (Nat.le_refl _))⟩

/-! ### max(d.values()) -/
def tMaxVals (te : TE) : TE := fun σ H Q => te σ H fun x H1 => ∃ (d : Addr) (kvs : List (List Key × V)) (is : List Int), x = V.ref d ∧ Rd H1 d (.dT kvs) ∧ kvs.map (·.2) = is.map V.int ∧ is ≠ [] ∧ ∀ m, m ∈ is → (∀ j ∈ is, j ≤ m) → Q (.int m) H1
theorem argBest_gt (f : Nat → Int) : ∀ n, argBest (fun i j => decide (f i > f j)) n ≤ n ∧ ∀ i, i ≤ n → f i ≤ f (argBest (fun i j => decide (f i > f j)) n)
  | 0 => ⟨Nat.le_refl _, fun i hi => by
      have e : i = 0 := by omega
      subst e
      exact Int.le_refl _⟩
  | n + 1 => by
    obtain ⟨h1, h2⟩ := argBest_gt f n
    show (if decide (f (n + 1) > f (argBest (fun i j => decide (f i > f j)) n)) then n + 1 else argBest (fun i j => decide (f i > f j)) n) ≤ n + 1 ∧ ∀ i, i ≤ n + 1 → f i ≤ f (if decide (f (n + 1) > f (argBest (fun i j => decide (f i > f j)) n)) then n + 1 else argBest (fun i j => decide (f i > f j)) n)
    by_cases h : f (n + 1) > f (argBest (fun i j => decide (f i > f j)) n)
    · rw [if_pos (decide_eq_true h)]
      refine ⟨Nat.le_refl _, fun i hi => ?_⟩
      by_cases hn : i ≤ n
      · have := h2 i hn
        omega
      · have e : i = n + 1 := by omega
        subst e
        exact Int.le_refl _
    · rw [if_neg (by simpa using h)]
      refine ⟨Nat.le_succ_of_le h1, fun i hi => ?_⟩
      by_cases hn : i ≤ n
      · exact h2 i hn
      · have e : i = n + 1 := by omega
        subst e
        omega
theorem pe_maxVals (hc : X.calm = true) (hd : PE X e te) (hg : Gl X "max") (hm : X.mg "max" = none) (hbase : attributeBase e "values" X.env (eval e X.env) = eval e X.env := by rfl) (hline : (apos.endLine == cpos.line) = true := by rfl)
    (hse : starEach [Expr.Call (.Attribute e "values" apos) [] [] cpos] X.env = [(false, eval (Expr.Call (.Attribute e "values" apos) [] [] cpos) X.env)] := by rfl) :
    PE X (.Call (.Name "max" p) [.Call (.Attribute e "values" apos) [] [] cpos] [] pos) (tMaxVals te) := by
  refine ⟨fun pins s σ H Q I h => ?_⟩
  refine wpAny_Call_Name_kw (ld_blt I hg hm (u := .builtin "max") (by decide +kernel) ?_)
  rw [hse]
  refine PySem.callWith_builtin1 (wpAny_Call_method0_late hbase hline (thn (hd.run pins s σ H _ I h) fun v s1 ⟨x, H1, I1, r1, a, kvs, is, ex, ha, hv, hne, q⟩ => ?_))
  subst ex
  obtain rfl : v = Value.ref a := r1
  obtain ⟨hz, hsm, es, ep, raw, hsz, hent⟩ := dT_raw I1 ha
  have raw0 := raw
  obtain ⟨ob, ho, hx, hdat⟩ := raw0
  refine ⟨"dict", "dict.values", F.plainAttrs_dict, F.slot_dict_values, F.type_dict_values, ⟨ob, ho, hx.1⟩, fun b e => ?_, Calls.callWith_builtin rfl (PySem.evalArgs_none ?_)⟩
  · cases e
    exact ⟨ob, ho, hx.2.1⟩
  refine call_meetsIn F.slot_dict_values ⟨ob, ho, hx.1⟩ F.entry_dict_values (F.args_dict_values_1 _) (meets_dict_values_raw a hsm) ⟨⟨es, ep, raw⟩, ?_⟩
  have k1 : ∀ b u, s1.heap.get? b = some u → (s1.heap.push { cls := .type "dict_values", data := .fields #[.ref a] }).get? b = some u := fun b u e => Heap.get?_push_of_some _ e
  have raw1 : (s1.heap.push { cls := .type "dict_values", data := .fields #[.ref a] }).DictRaw a es ep := raw.at fun o q => k1 _ _ q
  have hlv : es.size = is.length := by
    have e1 := congrArg List.length hv
    rw [List.length_map, List.length_map] at e1
    omega
  have hlen : 0 < es.size := by
    rw [hlv]
    exact List.length_pos_iff.mpr hne
  have hval : ∀ (i : Nat) (v : Value), (∃ hi : i < es.size, v = es[i].val) → ∃ t, v = Value.int (is.getD i 0) t := fun i v ⟨hi, ev⟩ => by
    obtain ⟨k, y, b, h1, _, _, h4⟩ := hent i hi
    have e1 : (kvs.map (·.2))[i]? = some y := by rw [List.getElem?_map, h1] <;> rfl
    rw [hv, List.getElem?_map] at e1
    obtain ⟨j, hj, e2⟩ := Option.map_eq_some_iff.mp e1
    subst e2
    obtain ⟨t, e3⟩ := h4
    refine ⟨t, ?_⟩
    rw [ev, e3, List.getD_eq_getElem?_getD, hj] <;> rfl
  refine call_max_walk (wpAny_pyIter_values_raw (v := s1.heap.objs.size) (d := a) ⟨_, Heap.get?_push_size _ rfl, rfl, rfl⟩ raw1 ?_)
  have hlt : a < s1.heap.objs.size := Heap.lt_size ho
  have hsz2 : (s1.heap.push { cls := .type "dict_values", data := .fields #[.ref a] }).objs.size = s1.heap.objs.size + 1 := Heap.size_push _ _
  refine ⟨_, _, _, _, _, _, _, rfl, Walks.rawValues (A := X.A.in1) (I.ok.hd hc) (s1.heap.push { cls := .type "dict_values", data := .fields #[.ref a] }).objs.size a (by rw [hsz2]; exact Nat.ne_of_lt (Nat.lt_succ_of_lt hlt)) es ep,
    ⟨⟨_, Heap.get?_push_size _ rfl, rfl, rfl⟩, raw1.at fun o e => Heap.get?_push_of_some _ e⟩, fun b hb => ?_, hlen, CmpOf.ints_gt (fun i => is.getD i 0) hval, fun v h' tk hP hk => ?_⟩
  · show b < ((s1.heap.push _).push _).objs.size
    rw [Heap.size_push, Heap.size_push]
    rw [hsz2] at hb
    rcases List.mem_cons.mp hb with e | hb
    · rw [e]
      exact Nat.lt_succ_self _
    · have e : b = a := List.mem_singleton.mp hb
      rw [e]
      exact Nat.lt_succ_of_lt (Nat.lt_succ_of_lt hlt)
  · obtain ⟨t, rfl⟩ := hval _ v hP
    obtain ⟨b1, b2⟩ := argBest_gt (fun i => is.getD i 0) (es.size - 1)
    refine ⟨.int _, H1, I1.kept (t' := tk) fun b u e => hk b u (fun hmem => ?_) (Heap.get?_push_of_some _ (k1 b u e)), ⟨t, rfl⟩, q _ ?_ fun j hj => ?_⟩
    · have e1 : b = (s1.heap.push { cls := .type "dict_values", data := .fields #[.ref a] }).objs.size := List.mem_singleton.mp hmem
      have e2 := Heap.lt_size e
      rw [hsz2] at e1
      rw [e1] at e2
      exact absurd e2 (Nat.not_lt.mpr (Nat.le_succ _))
    · have hb : argBest (fun i j => decide (is.getD i 0 > is.getD j 0)) (es.size - 1) < is.length := by omega
      rw [List.getD_eq_getElem?_getD, List.getElem?_eq_getElem hb]
      exact List.getElem_mem hb
    · obtain ⟨i, hi, e⟩ := List.mem_iff_getElem.mp hj
      have e2 : is.getD i 0 = j := by rw [List.getD_eq_getElem?_getD, List.getElem?_eq_getElem hi, ← e] <;> rfl
      rw [← e2]
      exact b2 i (by omega)
end
end K41
namespace K41
open PySem PySem.Spec PyProof.Rows L2 PySem.W PySem.Calls
section
variable {X : Cx}
def SortOk (ds : List PyData) : Prop := Sortable ds ∨ ∀ d ∈ ds, ∃ xs, d = .tuple xs
theorem sorts_any {prog : Program} {w : World} {A : Around} {s : Shared} {vs : List Value} {ds : List PyData} (e : EachIs (fun v d => ∃ as, Reads s.heap v d as) vs ds) (hal : AllAlike ds) (ht : SortOk ds) (hu : ∀ d, d ∈ ds → A.units + d.depth < cLine) :
    SortsAt prog w A s (dataKind s.heap ds) vs := by
  rcases ht with h | h
  · exact SortsAt.data e hal h hu
  · exact sorts_tups e hal h hu
/-- sorted(xs): data of one shape, tuples and the empty one too -/
def rSortA (K : PySem.W.Frag) : List V → Hp → VK → Prop := fun xs H Q => ∃ (β : Type) (a : Addr) (bs : List β) (f : β → V) (enc : β → PyData),
  xs = [.ref a] ∧ SqL K H a (bs.map f) ∧ (∀ b ∈ bs, Dp K H (f b) (enc b)) ∧ AllAlike (bs.map enc) ∧ SortOk (bs.map enc) ∧ (∀ b ∈ bs, (enc b).depth ≤ 8) ∧
  ∀ p, H p = none → Q (.ref p) (upd H p (.lst ((bs.mergeSort (leD enc)).map f)))
theorem cr_sortA (hu : X.A.units + 100 < cLine) : CallR X (.builtin "sorted") (rSortA X.K) := by
  intro pins s σ H xs us Q I r q
  obtain ⟨β, a, bs, f, enc, rfl, hs, hd, hal, hk, hz, q⟩ := q
  obtain ⟨u, rfl, ru⟩ := vals1 r
  obtain rfl : u = Value.ref a := ru
  obtain ⟨its, rv, hl, hlen⟩ := I.list hs
  rw [List.length_map] at hlen
  have er := each_reads I hd rv
  have er' : EachIs (fun v b => ∃ as, Reads (sortingHeap (copyHeap s.heap its) (s.heap.objs.size + 1) its) v (enc b) as) its bs := er.mono fun _ _ ⟨as, r⟩ => ⟨as, PyProof.Rows.Reads.keeps (fun _ _ => sorting_copy_old) r⟩
  have hul : ∀ d, d ∈ bs.map enc → X.A.in1.in1.units + d.depth < cLine := fun d hd' => by
    obtain ⟨b, hb, rfl⟩ := List.mem_map.mp hd'
    have h1 := hz b hb
    show X.A.units + 1 + 1 + (enc b).depth < cLine
    omega
  have el := (each_vals rv).length
  refine sorted_vals hl.isList (sorts_any (s := { s with heap := sortingHeap (copyHeap s.heap its) (s.heap.objs.size + 1) its }) (each_map (R := fun v d => ∃ as, Reads (sortingHeap (copyHeap s.heap its) (s.heap.objs.size + 1) its) v d as) enc er') hal hk hul) (by omega) ?_
  have hout := sortVals_data false (each_vals rv) er' hal
  have vo := vals_each hout
  obtain ⟨e, hat⟩ := sortedAll_at s.heap its (sortVals (dataKind (sortingHeap (copyHeap s.heap its) (s.heap.objs.size + 1) its) (bs.map enc)) false its its).toArray
  refine ⟨.ref (s.heap.objs.size + 1), upd H (s.heap.objs.size + 1) (.lst ((bs.mergeSort (leD enc)).map f)), I.laid (t' := s.toks) (fun b o hb => sortedAll_old hb) (Nat.le_succ _) ⟨?_, _, e, vo, hat⟩, rfl, q _ (I.hok.fresh (Nat.le_succ _))⟩
  rw [List.length_map]
  show (bs.mergeSort _).length ≤ sizeLine
  rw [List.length_mergeSort]
  exact hlen

/-! ### sorted(d) of a dict whose keys are tuples of texts -/
def encT (b : Addr × List Str) : PyData := .tuple (b.2.map .str)
theorem alike_strs : ∀ xs ys : List Str, alikeAll (xs.map .str) (ys.map .str) = true
  | [], ys => by simp [alikeAll]
  | x :: xs, [] => by simp [alikeAll]
  | x :: xs, y :: ys => by
    have h := alike_strs xs ys
    simp [alikeAll, alike, h]
theorem depth_strs : ∀ xs : List Str, PyData.depthAll (xs.map .str) = 0
  | [] => by simp [PyData.depthAll]
  | x :: xs => by
    have h := depth_strs xs
    simp [PyData.depthAll, PyData.depth, h]
theorem depth_encT (b : Addr × List Str) : (encT b).depth ≤ 8 := by
  have h := depth_strs b.2
  simp only [encT, PyData.depth]
  omega
theorem dpAll_strs {K : PySem.W.Frag} {H : Hp} : ∀ xs : List Str, DpAll K H (xs.map V.str) (xs.map .str)
  | [] => .nil
  | x :: xs => .cons (.str x) (dpAll_strs xs)
def rSortT : List V → Hp → VK → Prop := fun xs H Q => ∃ (d : Addr) (kvs : List (List Key × V)) (ks : List (List Str)), xs = [.ref d] ∧ Rd H d (.dT kvs) ∧ kvs.map (·.1) = ks.map (fun k => k.map Sum.inr) ∧
  ∀ (p : Addr) (bs : List (Addr × List Str)), H p = none → bs.map (·.2) = ks → (∀ b ∈ bs, H b.1 = some (.tup (b.2.map V.str))) → Q (.ref p) (upd H p (.lst ((bs.mergeSort (leD encT)).map fun b => V.ref b.1)))
theorem list_ext_ix {α : Type} {xs ys : List α} (h : ∀ i : Nat, xs[i]? = ys[i]?) : xs = ys := List.ext_getElem? h
theorem call_sortT (hc : X.calm = true) (hu : X.A.units + 100 < cLine) : CallR X (.builtin "sorted") rSortT := by
  intro pins s σ H xs us Q I r q
  obtain ⟨d, kvs, ks, rfl, hd, hks, q⟩ := q
  obtain ⟨u, rfl, ru⟩ := vals1 r
  obtain rfl : u = Value.ref d := ru
  obtain ⟨hz, hsm, es, ep, raw, hsz, hent⟩ := dT_raw I hd
  have hkl : ks.length = kvs.length := by
    have e := congrArg List.length hks
    rw [List.length_map, List.length_map] at e
    exact e.symm
  -- the keys' own tuples
  have pick : ∃ bs : List (Addr × List Str), bs.map (·.2) = ks ∧ bs.length = es.size ∧ (∀ b ∈ bs, H b.1 = some (.tup (b.2.map V.str))) ∧ ∀ (i : Nat) (hi : i < es.size), ∃ b, bs[i]? = some b ∧ es[i].key = .ref b.1 := by
    have go : ∀ n, n ≤ es.size → ∃ bs : List (Addr × List Str), bs.map (·.2) = ks.take n ∧ bs.length = n ∧ (∀ b ∈ bs, H b.1 = some (.tup (b.2.map V.str))) ∧ ∀ (i : Nat) (hi : i < es.size), i < n → ∃ b, bs[i]? = some b ∧ es[i].key = .ref b.1 := by
      intro n
      induction n with
      | zero => exact fun _ => ⟨[], by simp, rfl, fun b hb => absurd hb (by simp), fun i _ hi => absurd hi (Nat.not_lt_zero _)⟩
      | succ n ih =>
        intro hn
        obtain ⟨bs, h1, h2, h3, h4⟩ := ih (Nat.le_of_succ_le hn)
        obtain ⟨k, v, b, g1, g2, g3, _⟩ := hent n hn
        have hkn : n < ks.length := by omega
        have ek : k = ks[n].map Sum.inr := by
          have e1 : (kvs.map (·.1))[n]? = some k := by rw [List.getElem?_map, g1] <;> rfl
          rw [hks, List.getElem?_map, List.getElem?_eq_getElem hkn] at e1
          exact (Option.some.inj e1).symm
        refine ⟨bs ++ [(b, ks[n])], ?_, by simp [h2], fun c hc' => ?_, fun i hi hin => ?_⟩
        · rw [List.map_append, h1, List.take_succ, List.getElem?_eq_getElem hkn]
          simp
        · rcases List.mem_append.mp hc' with z | z
          · exact h3 c z
          · obtain rfl := List.mem_singleton.mp z
            rw [ek, List.map_map] at g3
            exact g3
        · by_cases hlt : i < n
          · obtain ⟨c, c1, c2⟩ := h4 i hi hlt
            exact ⟨c, by rw [List.getElem?_append_left (by omega)]; exact c1, c2⟩
          · have e : i = n := by omega
            subst e
            exact ⟨(b, ks[i]), by rw [List.getElem?_append_right (by omega), h2, Nat.sub_self] <;> rfl, g2⟩
    obtain ⟨bs, h1, h2, h3, h4⟩ := go es.size (Nat.le_refl _)
    exact ⟨bs, by rw [h1, List.take_of_length_le (by omega)], h2, h3, fun i hi => h4 i hi hi⟩
  obtain ⟨bs, hb1, hb2, hb3, hb4⟩ := pick
  refine Calls.call_function_entry PyProof.Rows.kind_sorted PyProof.Rows.plain_sorted PyProof.Rows.entry_sorted (PyProof.Rows.args_sorted1 _) ?_
  unfold Builtin.«sorted»
  refine wpAny_bind (m := checkCount "sorted" 1 1 _) (wpAny_pure ?_)
  refine wpAny_bind (kdu_collect (A := X.A.in1) (KdlSrc.rawDict (d := d) (es := es) (ep := ep) hsm) (I.ok.hd hc) raw (by omega) fun h' tk acc hk hacc => ?_)
  have hal : acc.toList.length = es.size := by
    have q2 : acc.toList.length = acc.size := by simp
    rw [q2]
    exact hacc.1
  have hrefs : acc.toList = bs.map fun b => Value.ref b.1 := by
    refine list_ext_ix fun i => ?_
    rw [List.getElem?_map]
    by_cases hi : i < es.size
    · obtain ⟨b, h1, h2⟩ := hb4 i hi
      rw [h1, List.getElem?_eq_getElem (by omega)]
      obtain ⟨hi2, ev⟩ := hacc.2 i acc.toList[i] (by rw [← Array.getElem?_toList, List.getElem?_eq_getElem (by omega)])
      show some acc.toList[i] = some (Value.ref b.1)
      rw [ev, h2]
    · rw [List.getElem?_eq_none (by omega), List.getElem?_eq_none (by omega)] <;> rfl
  have rv : Vals (bs.map fun b => V.ref b.1) acc.toList := by
    rw [hrefs]
    exact vals_each (f := fun b : Addr × List Str => V.ref b.1) (by
      clear hb1 hb2 hb3 hb4 hrefs
      induction bs with
      | nil => exact .nil
      | cons b bs ih => exact .cons rfl ih)
  have I1 : Inv X pins σ H { s with heap := h', toks := tk } := I.kept hk
  refine wpAny_bind (wpAny_newList ?_ (by rw [hal]; omega))
  have hoL : (h'.push (seqObj "list" acc.toList.toArray 0)).get? h'.objs.size = some (seqObj "list" acc.toList.toArray 0) := Heap.get?_push_size _ rfl
  show wpAny _ _ _ _ _ { s with heap := h'.push (seqObj "list" acc.toList.toArray 0), toks := tk }
  have hDp : ∀ b ∈ bs, Dp X.K H (V.ref b.1) (encT b) := fun b hb => .tup (.inl (.inl (hb3 b hb))) (dpAll_strs b.2)
  have er0 := each_reads I1 hDp rv
  have er' : EachIs (fun v b => ∃ as, Reads (sortingHeap (h'.push (seqObj "list" acc.toList.toArray 0)) h'.objs.size acc.toList) v (encT b) as) acc.toList bs := er0.mono fun _ _ ⟨as, r⟩ => ⟨as, PyProof.Rows.Reads.keeps (fun b o e => sortingHeap_old (Nat.ne_of_lt (Heap.lt_size e)) (Heap.get?_push_of_some _ e)) r⟩
  have hall : AllAlike (bs.map encT) := AllAlike.of fun b b' => by
    have h := alike_strs b.2 b'.2
    simpa [encT, alike] using h
  have hul : ∀ d, d ∈ bs.map encT → X.A.in1.in1.units + d.depth < cLine := fun d hd' => by
    obtain ⟨b, hb, rfl⟩ := List.mem_map.mp hd'
    have h1 := depth_encT b
    show X.A.units + 1 + 1 + (encT b).depth < cLine
    omega
  have htup : SortOk (bs.map encT) := .inr fun d hd' => by
    obtain ⟨b, hb, rfl⟩ := List.mem_map.mp hd'
    exact ⟨_, rfl⟩
  refine wpAny_bind (wpAny_holding (wpAny_call_entry PyProof.Rows.slot_list_sort ⟨_, hoL, rfl⟩ PyProof.Rows.entry_list_sort
    (list_sort_vals (s := { s with heap := h'.push (seqObj "list" acc.toList.toArray 0), toks := tk }) hoL
      (sorts_any (s := { s with heap := sortingHeap (h'.push (seqObj "list" acc.toList.toArray 0)) h'.objs.size acc.toList, toks := tk }) (each_map (R := fun v d => ∃ as, Reads (sortingHeap (h'.push (seqObj "list" acc.toList.toArray 0)) h'.objs.size acc.toList) v d as) encT er') hall htup hul)
      (by rw [hal]; omega) ⟨_, rfl, ?_⟩)
    (PyProof.Rows.args_list_sort _)))
  have hout := sortVals_data (R := fun u (b : Addr × List Str) => RelV (V.ref b.1) u) false (each_vals rv) er' hall
  have vo := vals_each hout
  obtain ⟨e', he'⟩ := PyProof.Rows.sortedHeap_at (vs := acc.toList) (out := (sortVals (dataKind (sortingHeap (h'.push (seqObj "list" acc.toList.toArray 0)) h'.objs.size acc.toList) (bs.map encT)) false acc.toList acc.toList).toArray) hoL
  refine wpAny_pure ⟨_, rfl, .ref h'.objs.size, upd H h'.objs.size (.lst ((bs.mergeSort (leD encT)).map fun b => V.ref b.1)), I1.laid (t' := tk) (fun b u e => ?_) (Nat.le_refl _)
    ⟨?_, _, e', vo, he'⟩, rfl, q _ bs (I1.hok.fresh (Nat.le_refl _)) hb1 hb3⟩
  · have hb : b < h'.objs.size := Heap.lt_size e
    rw [PyProof.Rows.sortedHeap_old (Nat.ne_of_lt hb) (by rw [size_push']; exact Nat.lt_succ_of_lt hb)]
    exact Heap.get?_push_of_some _ e
  · rw [List.length_map]
    show (bs.mergeSort _).length ≤ sizeLine
    rw [List.length_mergeSort]
    omega
end
end K41
namespace K41
open PySem PySem.Spec PyProof.Rows L2 PySem.W PySem.Calls
section
variable {X : Cx}
/-! ### one sign eight times -/
def oct (c : Nat) : Str := ⟨#[c, c, c, c, c, c, c, c]⟩
theorem op_oct : OpR X (binaryOp .Mult) (fun x y H Q => ∃ c : Nat, x = .str ⟨#[c]⟩ ∧ y = .int 8 ∧ Q (.str (oct c)) H) := by
  intro pins s σ H x y v u Q I rx ry h
  obtain ⟨c, rfl, rfl, q⟩ := h
  obtain ⟨t, rfl⟩ := rx
  obtain ⟨t', rfl⟩ := ry
  refine P.mul_str (by decide) (fun _ _ => by show ¬ ((1 : Int) > (2 ^ 63 - 1) / 8); decide) (fun _ _ => rfl) ?_
  rw [if_neg (by decide), if_neg (by show ¬ ((8 : Int) == 1 || (1 : Nat) == 0) = true; decide)]
  exact ⟨by show 8 ≤ sizeLine; decide, .str (oct c), H, I.tok _, ⟨_, rfl⟩, q⟩

/-! ### list(text) -/
theorem call_listS (hc : X.calm = true) : CallR X (.type "list") (fun xs H Q => ∃ z : Str, xs = [.str z] ∧ z.cps.size ≤ sizeLine ∧ ∀ p, H p = none → Q (.ref p) (upd H p (.lst (z.cps.toList.map fun c => V.str ⟨#[c]⟩)))) := by
  intro pins s σ H xs us Q I r q
  obtain ⟨z, rfl, hz, q⟩ := q
  obtain ⟨u, rfl, t, rfl⟩ := vals1 r
  refine call_list_str (I.ok.hd hc) z t (fun h' tk acc c' hk hD hacc => ?_) hz
  have q0 : (z.cps.toList.map fun c => V.str ⟨#[c]⟩).length = acc.toList.length := by
    have q1 := hacc.1
    have q2 : acc.toList.length = acc.size := by simp
    rw [List.length_map, q2, q1]
    simp
  have hv : Vals (z.cps.toList.map fun c => V.str ⟨#[c]⟩) acc.toList := vals_ix q0 fun i u eu => by
    obtain ⟨c, t, h1, h2⟩ := hacc.2 i u (by rw [← Array.getElem?_toList]; exact eu)
    exact ⟨.str ⟨#[c]⟩, by rw [List.getElem?_map, Array.getElem?_toList, h1] <;> rfl, ⟨t, h2⟩⟩
  exact ⟨.ref _, _, I.laid (t' := tk) (o := .lst (z.cps.toList.map fun c => V.str ⟨#[c]⟩)) hk (Nat.le_refl _) ⟨by rw [List.length_map]; simpa using hz, acc.toList, c', hv, by rw [Array.toArray_toList]; exact hD⟩, rfl, q _ (I.hok.fresh (Nat.le_refl _))⟩

/-! ### powers -/
def CPowW (i j : Int) : Prop := 0 ≤ j ∧ (Builtin.Int.intBits i : Int) * j ≤ 2 ^ 27
theorem op_powW : OpR X (binaryOp .Pow) (rI CPowW fun i j => .int (i ^ j.toNat)) := opI fun _ _ _ _ _ _ _ hc q => pow_int hc.1 hc.2 q

/-! ### min, max of two texts -/
def sLt (a b : Str) : Bool := decide (a.cps.toList < b.cps.toList)
def sMin (a b : Str) : Str := if sLt b a = true then b else a
def sMax (a b : Str) : Str := if sLt a b = true then b else a
def pk (a b : Str) : Nat → Str
  | 0 => a
  | _ + 1 => b
theorem strAt {a b : Str} {t u : Tok} {i : Nat} {v : Value} (h : (#[Value.str a t, Value.str b u] : Array Value)[i]? = some v) : ∃ t', v = Value.str (pk a b i) t' ∧ i ≤ 1 := by
  match i, h with
  | 0, h =>
    have e : some (Value.str a t) = some v := h
    cases e
    exact ⟨t, rfl, Nat.zero_le _⟩
  | 1, h =>
    have e : some (Value.str b u) = some v := h
    cases e
    exact ⟨u, rfl, Nat.le_refl _⟩
  | i + 2, h => simp at h
theorem call_minS (hc : X.calm = true) : CallR X (.builtin "min") (fun xs H Q => ∃ a b : Str, xs = [.str a, .str b] ∧ Q (.str (sMin a b)) H) := by
  intro pins s σ H xs us Q I r h
  obtain ⟨a, b, rfl, q⟩ := h
  obtain ⟨u, w', rfl, ⟨t, rfl⟩, ⟨t', rfl⟩⟩ := vals2 r
  have hT : (s.heap.push { cls := .type "tuple", data := .seq #[.str a t, .str b t'] }).IsTuple s.heap.objs.size #[.str a t, .str b t'] := ⟨_, Heap.get?_push_size _ rfl, rfl, 0, rfl⟩
  refine call_min_two (wpAny_pyIter_tuple hT ?_)
  have hsz : (s.heap.push { cls := .type "tuple", data := .seq #[.str a t, .str b t'] }).objs.size = s.heap.objs.size + 1 := Heap.size_push ..
  refine ⟨_, [_, s.heap.objs.size], [_], _, _, _, fun i j => sLt (pk a b i) (pk a b j), rfl, Walks.tuple (A := X.A.in1) (I.ok.hd hc) _ s.heap.objs.size (by rw [hsz]; exact Nat.ne_of_lt (Nat.lt_succ_self _)) #[.str a t, .str b t'],
    ⟨⟨_, Heap.get?_push_size _ rfl, rfl, rfl⟩, hT.push _⟩, fun c hc => ?_, by show 0 < 2; decide, fun i j vi vj s Q E hi hj h => ?_, fun v h' tk hP hk => ?_⟩
  · show c < ((s.heap.push _).push _).objs.size
    rw [Heap.size_push, hsz]
    rcases List.mem_cons.mp hc with rfl | hc
    · rw [hsz]; exact Nat.lt_succ_self _
    · rcases List.mem_cons.mp hc with rfl | hc
      · exact Nat.lt_succ_of_lt (Nat.lt_succ_self _)
      · cases hc
  · obtain ⟨t1, rfl, _⟩ := strAt hi
    obtain ⟨t2, rfl, _⟩ := strAt hj
    exact P.lt_str h
  · refine ⟨.str (sMin a b), H, I.kept (t' := tk) fun c o e => hk c o (fun hm => ?_) (Heap.get?_push_of_some _ (Heap.get?_push_of_some _ e)), ?_, q⟩
    · rcases List.mem_cons.mp hm with e1 | hm
      · have := Heap.lt_size e
        rw [e1, hsz] at this
        exact Nat.lt_irrefl _ (Nat.lt_of_succ_lt this)
      · cases hm
    · obtain ⟨t3, rfl, _⟩ := strAt hP
      refine ⟨t3, ?_⟩
      show Value.str (pk a b (if sLt b a = true then 1 else 0)) t3 = Value.str (if sLt b a = true then b else a) t3
      by_cases h : sLt b a = true
      · rw [if_pos h, if_pos h]; rfl
      · rw [if_neg h, if_neg h]; rfl
theorem call_maxS (hc : X.calm = true) : CallR X (.builtin "max") (fun xs H Q => ∃ a b : Str, xs = [.str a, .str b] ∧ Q (.str (sMax a b)) H) := by
  intro pins s σ H xs us Q I r h
  obtain ⟨a, b, rfl, q⟩ := h
  obtain ⟨u, w', rfl, ⟨t, rfl⟩, ⟨t', rfl⟩⟩ := vals2 r
  have hT : (s.heap.push { cls := .type "tuple", data := .seq #[.str a t, .str b t'] }).IsTuple s.heap.objs.size #[.str a t, .str b t'] := ⟨_, Heap.get?_push_size _ rfl, rfl, 0, rfl⟩
  refine call_max_two (wpAny_pyIter_tuple hT ?_)
  have hsz : (s.heap.push { cls := .type "tuple", data := .seq #[.str a t, .str b t'] }).objs.size = s.heap.objs.size + 1 := Heap.size_push ..
  refine ⟨_, [_, s.heap.objs.size], [_], _, _, _, fun i j => sLt (pk a b j) (pk a b i), rfl, Walks.tuple (A := X.A.in1) (I.ok.hd hc) _ s.heap.objs.size (by rw [hsz]; exact Nat.ne_of_lt (Nat.lt_succ_self _)) #[.str a t, .str b t'],
    ⟨⟨_, Heap.get?_push_size _ rfl, rfl, rfl⟩, hT.push _⟩, fun c hc => ?_, by show 0 < 2; decide, fun i j vi vj s Q E hi hj h => ?_, fun v h' tk hP hk => ?_⟩
  · show c < ((s.heap.push _).push _).objs.size
    rw [Heap.size_push, hsz]
    rcases List.mem_cons.mp hc with rfl | hc
    · rw [hsz]; exact Nat.lt_succ_self _
    · rcases List.mem_cons.mp hc with rfl | hc
      · exact Nat.lt_succ_of_lt (Nat.lt_succ_self _)
      · cases hc
  · obtain ⟨t1, rfl, _⟩ := strAt hi
    obtain ⟨t2, rfl, _⟩ := strAt hj
    exact P.gt_str h
  · refine ⟨.str (sMax a b), H, I.kept (t' := tk) fun c o e => hk c o (fun hm => ?_) (Heap.get?_push_of_some _ (Heap.get?_push_of_some _ e)), ?_, q⟩
    · rcases List.mem_cons.mp hm with e1 | hm
      · have := Heap.lt_size e
        rw [e1, hsz] at this
        exact Nat.lt_irrefl _ (Nat.lt_of_succ_lt this)
      · cases hm
    · obtain ⟨t3, rfl, _⟩ := strAt hP
      refine ⟨t3, ?_⟩
      show Value.str (pk a b (if sLt a b = true then 1 else 0)) t3 = Value.str (if sLt a b = true then b else a) t3
      by_cases h : sLt a b = true
      · rw [if_pos h, if_pos h]; rfl
      · rw [if_neg h, if_neg h]; rfl

/-! ### xs[::n], n being 1 or -1 -/
def dirL (n : Int) (xs : List V) : List V := if n = 1 then xs else xs.reverse
def kStep (K : PySem.W.Frag) (x : V) (Q : VK) : Option Int → Hp → Prop
  | some n, H => ∃ (a : Addr) (xs : List V), x = .ref a ∧ SqL K H a xs ∧ (n = 1 ∨ n = -1) ∧ ∀ p, H p = none → Q (.ref p) (upd H p (.lst (dirL n xs)))
  | none, _ => False
def tStepL (K : PySem.W.Frag) (te tn : TE) : TE := fun σ H Q => te σ H fun x H1 => tPart tn σ H1 (kStep K x Q)
theorem pick_one (items : Array Value) : slicePick items none none (some 1) = items := by
  have h := slicePick_cut items.toList none none
  have e : slicePick items none none (some 1) = slicePick items.toList.toArray none none none := by
    rw [Array.toArray_toList]
    rfl
  rw [e, h]
  simp only [HT.sIx]
  show (List.take (items.toList.length - 0) (List.drop 0 items.toList)).toArray = items
  rw [List.drop_zero, Nat.sub_zero, List.take_of_length_le (Nat.le_refl _)]
theorem pe_stepL {e n : Expr} {te tn : TE} {p3 pos : Pos} (he : PE X e te) (hn : PE X n tn)
    (hsub : ∀ a b : Addr, subscripted (.Slice none none (some n) p3) false (.ref a) (.ref b) = operate [.ref a, .ref b] (getItem (.ref a) (.ref b)) := by intro a b; with_unfolding_all rfl) : PE X (.Subscript e (.Slice none none (some n) p3) pos) (tStepL X.K te tn) := by
  refine ⟨fun pins s σ H Q I h => ?_⟩
  refine Subscript_ (thn (he.run pins s σ H _ I h) fun v s1 ⟨x, H1, I1, r1, q1⟩ => ?_)
  refine wpAny_Slice (thn (po_none.run pins s1 σ H1 (fun o H2 => o = none ∧ H2 = H1) I1 ⟨rfl, rfl⟩) fun vl s2 ⟨l, H2, I2, pl, el, e2⟩ => ?_)
  subst el e2
  refine thn (po_none.run pins s2 σ H2 (fun o H3 => o = none ∧ H3 = H2) I2 ⟨rfl, rfl⟩) fun vu s3 ⟨u, H3, I3, pu, eu, e3⟩ => ?_
  subst eu e3
  refine thn ((po_some hn).run pins s3 σ H3 (kStep X.K x Q) I3 q1) fun vs s4 ⟨o, H4, I4, ps, eo⟩ => ?_
  cases o with
  | none => exact eo.elim
  | some n =>
    obtain ⟨a, xs, rfl, hx, hn1, q⟩ := eo
    cases r1
    have I5 : Inv X pins σ H4 { s4 with heap := s4.heap.push { cls := .type "slice", data := .fields #[vl, vu, vs] } } := I4.kept (t' := s4.toks) fun b ob q => Heap.get?_push_of_some _ q
    obtain ⟨its, r, ht, hz⟩ := I5.list hx
    have hlen := r.length
    refine tail_any (ops := [.ref a, .ref s4.heap.objs.size]) ht.isList.typeIs (PySem.slot_list_getitem.lookup) ?_ (hsub _ _)
    have hsl : ∀ (us : List Value), slicePick its.toArray none none (some n) = us.toArray → Vals (dirL n xs) us → us.length = its.length → wpAny (model X.prog X.w) X.A (getItem (.ref a) (.ref s4.heap.objs.size)) (EP X pins σ Q) X.xe { s4 with heap := s4.heap.push { cls := .type "slice", data := .fields #[vl, vu, vs] } } := by
      intro us e1 e2 e3
      refine wpAny_getItem_list_slice ht.isList (Heap.IsSliceOf.new _ vl vu vs) pl pu ps (by rcases hn1 with h | h <;> subst h <;> decide) ?_ (by rw [List.size_toArray]; omega)
      rw [e1]
      refine ⟨.ref _, _, I5.laid (t' := s4.toks) (o := .lst (dirL n xs)) (fun b ob q => Heap.get?_push_of_some _ q) (Nat.le_refl _) ?_, rfl, q _ (I5.hok.fresh (Nat.le_refl _))⟩
      exact ⟨by rw [e2.length]; omega, us, 0, e2, Heap.get?_push_size _ rfl⟩
    rcases hn1 with h | h
    · subst h
      exact hsl its (pick_one _) r rfl
    · subst h
      exact hsl its.reverse (by rw [PySem.W.krv_pick]) r.reverse (by rw [List.length_reverse])
end
end K41
namespace K41
open PySem PySem.Spec PyProof.Rows L2 PySem.W PySem.Calls
section
variable {X : Cx}
theorem key_stays {P : Program} {w : World} {h h' : Heap} {k : List Key} {a : Addr} (x : (tupleKind (mixKind P w)).is h k a) (e : ∀ o, h.get? a = some o → h'.get? a = some o) : (tupleKind (mixKind P w)).is h' k a := by
  obtain ⟨o, its, n, h1, h2⟩ := x
  exact ⟨o, its, n, e _ h1, h2⟩
/-! ### {k: v}, the key a tuple -/
def tDisp1 (tk tv : TE) : TE := fun σ H Q => ∀ p, H p = none → tk σ (upd H p (.dT [])) fun x H1 => tv σ H1 fun y H2 => H2 p = some (.dT []) ∧ ∃ b k, x = V.ref b ∧ H2 b = some (.tup (k.map kV)) ∧ Q (.ref p) (upd H2 p (.dT [(k, y)]))
def kDisp (Q : VK) (p : Addr) : List (V × V) → Hp → Prop
  | [(x, y)], H2 => H2 p = some (.dT []) ∧ ∃ b k, x = V.ref b ∧ H2 b = some (.tup (k.map kV)) ∧ Q (.ref p) (upd H2 p (.dT [(k, y)]))
  | _, _ => False
theorem pe_disp1 {k v : Expr} {tk tv : TE} {pos : Pos} (hu : X.A.units + 1 < cLine) (hk : PE X k tk) (hv : PE X v tv) : PE X (.Dict [some k] [v] pos) (tDisp1 tk tv) := by
  refine ⟨fun pins s σ H Q I q => ?_⟩
  have hn := I.hok.fresh (Nat.le_refl s.heap.objs.size)
  have I1 := I.laid (a := s.heap.objs.size) (o := .dT []) (h' := s.heap.push { cls := .type "dict", data := .dict #[] }) (t' := s.toks) (fun _ _ q => Heap.get?_push_of_some _ q) (Nat.le_refl _) (dt_empty s.heap I.big)
  have hsh := zip_pairTrees [some k] [v] X.env pos rfl rfl
  have hn2 := pairTrees_length [some k] [v] X.env pos rfl rfl
  have hpp : PPs X pos [some k] [v] [(tk, tv)] := pps_cons hk hv pps_nil
  rw [arm_eval_Dict, hsh, dictDisplay_pairs _ (fun z => by rw [z] at hn2; cases hn2) (by rw [hn2]; show 1 < 17; decide)]
  refine wpAny_bind (wpAny_standAt (wpAny_bind (wpAny_subDictH (knd := tupleKind (mixKind X.prog X.w)) (Q := fun d s' => wpAny (model X.prog X.w) X.A (pure (Value.ref d)) (EP X pins σ Q) X.xe s') ?_ (by rw [hn2]; show 1 ≤ 15; decide) ?_)))
  · show X.A.units < cLine
    omega
  refine thn (hpp.run pins _ σ _ (kDisp Q s.heap.objs.size) I1 (q _ hn)) fun vs s2 ⟨ps, H2, I2, rel, hq⟩ => ?_
  match ps, hq with
  | [(x, y)], hq =>
    obtain ⟨e, b, kk, rfl, eb, hq⟩ := hq
    cases rel with
    | @cons pa qa as bs r1 t =>
      cases t
      obtain ⟨key, val⟩ := qa
      obtain ⟨rk, rv⟩ := r1
      obtain rfl : key = Value.ref b := rk
      obtain ⟨z, hd, xs, r0, dd⟩ := dt_of I2.hok e
      have exs : xs = [] := by
        cases r0
        rfl
      subst exs
      refine ⟨[(kk, b, val)], ⟨rfl, rfl, key_of I2.hok eb, True.intro⟩, dd, fun h' tk dd' hs => wpAny_pure ?_⟩
      obtain ⟨o, es, ep, ho, h2, h3, h4, _, h5⟩ := dd'
      have hrel : KT H2 [(kk, y)] [(kk, b, val)] := .cons ⟨rfl, eb, rv⟩ .nil
      refine ⟨.ref s.heap.objs.size, _, d_write (t' := tk) (ob := .dT [(kk, y)]) I2 (by rw [e]; exact True.intro) hs ⟨o, ho⟩ ⟨by show 1 ≤ sizeLine; decide, hd, _, hrel.keeps fun c ys ec => ?_, o, es, ep, ho, h2, h3, h4, h5⟩, rfl, hq⟩
      rw [upd_ne (ne_of ec e (fun z => nomatch z))]
      exact ec
/-! ### dict(pairs), the keys tuples -/
def mergeT (kvs : List (List Key × V)) (more : List (List Key × Addr × V)) : List (List Key × V) := more.foldl (fun acc x => putK acc x.1 x.2.2) kvs
theorem length_mergeT : ∀ (more : List (List Key × Addr × V)) (kvs : List (List Key × V)), (mergeT kvs more).length ≤ kvs.length + more.length
  | [], kvs => Nat.le_refl _
  | x :: r, kvs => by
    have h1 := length_mergeT r (putK kvs x.1 x.2.2)
    have h2 := length_putK kvs x.1 x.2.2
    show (mergeT (putK kvs x.1 x.2.2) r).length ≤ kvs.length + (r.length + 1)
    omega
theorem KT.mergeT {H : Hp} : ∀ {more : List (List Key × Addr × V)} {rs : List (List Key × Addr × Value)} {kvs : List (List Key × V)} {xs : List (List Key × Addr × Value)},
    Paired (fun (x : List Key × Addr × V) (r : List Key × Addr × Value) => x.1 = r.1 ∧ x.2.1 = r.2.1 ∧ H x.2.1 = some (.tup (x.1.map kV)) ∧ RelV x.2.2 r.2.2) more rs → KT H kvs xs → KT H (K41.mergeT kvs more) (storedAllH xs rs) := by
  intro more rs kvs xs r
  induction r generalizing kvs xs with
  | nil => intro q; exact q
  | @cons x q ps qs h t ih =>
    intro r0
    obtain ⟨h1, h2, h3, h4⟩ := h
    have e : KT H (putK kvs x.1 x.2.2) (storedH xs q.1 q.2.1 q.2.2) := by
      have := r0.put x.1 h3 h4
      rw [← h1, ← h2]
      exact this
    exact ih e
def rDictPT (K : PySem.W.Frag) : List V → Hp → VK → Prop := fun xs H Q => ∃ (a : Addr) (ps : List Addr) (kas : List (List Key × Addr × V)), xs = [.ref a] ∧ SqL K H a (ps.map V.ref) ∧
  Paired (fun p (x : List Key × Addr × V) => SqT K H p [.ref x.2.1, x.2.2] ∧ H x.2.1 = some (.tup (x.1.map kV))) ps kas ∧ ∀ p, H p = none → Q (.ref p) (upd H p (.dT (mergeT [] kas)))
theorem call_dictPT (hc : X.calm = true) (hu : X.A.units + 10 < cLine) : CallR X (.type "dict") (rDictPT X.K) := by
  intro pins s σ H xs us Q I r q
  obtain ⟨a, ps, kas, rfl, hq, hp, q⟩ := q
  obtain ⟨u, rfl, rx⟩ := vals1 r
  obtain rfl : u = Value.ref a := rx
  obtain ⟨its, rv, pl, hz⟩ := I.list hq
  rw [List.length_map] at hz
  have lk : ps.length = kas.length := Paired.length hp
  have hlen := rv.length
  rw [List.length_map] at hlen
  -- the pairs as the model holds them
  have pick : ∀ {ps : List Addr} {kas : List (List Key × Addr × V)}, Paired (fun p (x : List Key × Addr × V) => SqT X.K H p [.ref x.2.1, x.2.2] ∧ H x.2.1 = some (.tup (x.1.map kV))) ps kas →
      ∃ rs : List (List Key × Addr × Value), Paired (fun (x : List Key × Addr × V) (r : List Key × Addr × Value) => x.1 = r.1 ∧ x.2.1 = r.2.1 ∧ H x.2.1 = some (.tup (x.1.map kV)) ∧ RelV x.2.2 r.2.2) kas rs ∧
        Paired (fun p (r : List Key × Addr × Value) => s.heap.IsTuple p #[.ref r.2.1, r.2.2] ∧ H r.2.1 = some (.tup (r.1.map kV))) ps rs := by
    intro ps kas h
    induction h with
    | nil => exact ⟨[], .nil, .nil⟩
    | @cons p x ps kas h t ih =>
      obtain ⟨rs, h1, h2⟩ := ih
      obtain ⟨hT, hk⟩ := h
      obtain ⟨it2, r2, ⟨o, ho, hcl, n, hd⟩, _⟩ := I.tuple hT
      obtain ⟨u1, u2, rfl, ra, rb⟩ := vals2 r2
      obtain rfl : u1 = Value.ref x.2.1 := ra
      exact ⟨(x.1, x.2.1, u2) :: rs, .cons ⟨rfl, rfl, hk, rb⟩ h1, .cons ⟨⟨o, ho, hcl, n, hd⟩, hk⟩ h2⟩
  obtain ⟨rs, h1, h2⟩ := pick hp
  have l2 : ps.length = rs.length := Paired.length h2
  have gt : ∀ {α β : Type} {F : α → β → Prop} {l : List α} {m : List β}, Paired F l m → ∀ (j : Nat) (y : β), m[j]? = some y → ∃ x, l[j]? = some x ∧ F x y := by
    intro α β F l m h
    induction h with
    | nil => intro j y e; cases e
    | cons h t ih =>
      intro j y e
      cases j with
      | zero => cases e; exact ⟨_, rfl, h⟩
      | succ j => exact ih j y e
  obtain ⟨o, n, ho, hcl, hd, hdat⟩ := pl
  refine call_dict_pairsH (knd := tupleKind (mixKind X.prog X.w)) (ps := rs) (PairArg.list a its.toArray (fun j => ps.getD j 0) (rs.map fun r => (Value.ref r.2.1, r.2.2))) (I.ok.hd hc) ?_ ⟨⟨o, n, ho, hcl, hd, hdat⟩, by simp; omega, fun j k v hj => ?_⟩ ⟨by simp, fun i key v e => ?_⟩
    (fun h' hk x hx => ?_) (by rw [List.length_map]; omega) fun h' tk hd' hk => ?_
  · show X.A.units + 2 < cLine
    omega
  · rw [List.getElem?_map] at hj
    obtain ⟨y, hy, ey⟩ := Option.map_eq_some_iff.mp hj
    cases ey
    obtain ⟨p, hp1, hT, _⟩ := gt h2 j y hy
    obtain ⟨u, hu1, ru⟩ := rv.get (i := j) (x := V.ref p) (by rw [List.getElem?_map, hp1] <;> rfl)
    obtain rfl : u = Value.ref p := ru
    have eg : ps.getD j 0 = p := by rw [List.getD_eq_getElem?_getD, hp1] <;> rfl
    show its.toArray[j]? = some (Value.ref (ps.getD j 0)) ∧ PairAt s.heap (ps.getD j 0) (Value.ref y.2.1) y.2.2
    rw [eg]
    exact ⟨by simpa using hu1, .inl hT⟩
  · have e' : (rs.map fun r => (Value.ref r.2.1, r.2.2))[i]? = some (key, v) := e
    rw [List.getElem?_map] at e'
    obtain ⟨y, hy, ey⟩ := Option.map_eq_some_iff.mp e'
    cases ey
    exact ⟨y.1, y.2.1, hy, rfl⟩
  · obtain ⟨j, hj, e⟩ := List.mem_iff_getElem.mp hx
    obtain ⟨p, _, _, hk2⟩ := gt h2 j x (by rw [List.getElem?_eq_getElem hj, e])
    have k0 := key_of (P := X.prog) (w := X.w) I.hok hk2
    refine key_stays k0 fun o e => hk _ o (Nat.ne_of_lt (Heap.lt_size e)) (by simp) e
  · have hk' : ∀ b o, s.heap.get? b = some o → h'.get? b = some o := fun b o e => hk b o (by simp) e
    have hm : (s.heap.objs.size == sysModules) = false := beq_eq_false_iff_ne.mpr (Nat.ne_of_gt I.big)
    have hn := I.hok.fresh (Nat.le_refl s.heap.objs.size)
    obtain ⟨o2, es, ep, ho2, g2, g3, g4, _, g5⟩ := hd'
    have hK : KT H (mergeT [] kas) (storedAllH [] rs) := KT.mergeT h1 .nil
    refine ⟨.ref s.heap.objs.size, _, I.laid (t' := tk) (o := .dT (mergeT [] kas)) hk' (Nat.le_refl _) ⟨?_, hm, _, hK.keeps fun c ys ec => ?_, o2, es, ep, ho2, g2, g3, g4, g5⟩, rfl, q _ hn⟩
    · have := length_mergeT kas []
      rw [List.length_nil] at this
      omega
    · rw [upd_ne (ne_of_none ec hn)]
      exact ec
end
end K41
set_option maxHeartbeats 8000000
/-! the size of set(xs), xs a list of unlike tuples of texts (and ints) -/
namespace K41
open PySem PySem.Spec PyProof.Rows L2
abbrev TQ (P : Program) (w : World) (h : Heap) (k : List Key) (b : Addr) : Prop := IsTupleKey (mixKind P w) h k b
abbrev hsh (P : Program) (w : World) (k : List Key) : Int := tupleKeyHash (mixKind P w) k
section
variable {P : Program} {w : World} {A : Around} {E : Value → Shared → Prop} {s : Shared}
theorem mix_items {k : List Key} {vs : List Value} (h : ItemsAre (mixKind P w) k vs) : ∀ v ∈ vs, ofAClassStatement 7 v = pure false ∧ ∃ b, hashByValue 7 v = pure b := by
  induction h with
  | nil => exact fun v hv => absurd hv (by simp)
  | cons h1 _ ih =>
    intro v hv
    rcases List.mem_cons.mp hv with rfl | hv
    · rcases keyIs_shape h1 with ⟨i, t, _, rfl⟩ | ⟨x, t, _, rfl⟩
      · exact ⟨rfl, _, rfl⟩
      · exact ⟨rfl, _, rfl⟩
    · exact ih v hv
theorem noClass {k : List Key} {b : Addr} {Q : Bool → Shared → Prop} (hk : TQ P w s.heap k b) (h : Q false s) : wpAny (model P w) A (ofAClassStatement 8 (.ref b)) Q E s := by
  have hT := hk.typeIs
  obtain ⟨o, its, n, ho, _, hd, hi⟩ := hk
  have hm := mix_items hi
  unfold ofAClassStatement
  refine wpAny_bind (wpAny_typeOf hT ?_)
  dsimp only
  simp only [beq_self_eq_true, if_true]
  refine wpAny_bind (wpAny_pure ?_)
  simp only [Bool.not_true, Bool.false_eq_true, if_false]
  refine wpAny_bind (wpAny_seqItems ho hd ?_)
  dsimp only
  refine wpAny_bind ?_
  rw [← Array.forIn_toList]
  refine wpAny_forIn_list _ (fun l r s' => (r.1 = none ∧ s' = s) ∧ ∀ v ∈ l, v ∈ its.toList) _ (fun v l r s' hh => ?_) (fun r s' hh => ?_) _ _ ⟨⟨rfl, rfl⟩, fun v hv => hv⟩
  · obtain ⟨⟨hr, rfl⟩, hl⟩ := hh
    rw [(hm v (hl v List.mem_cons_self)).1]
    refine wpAny_bind (wpAny_pure ?_)
    simp only [Bool.false_eq_true, if_false]
    exact wpAny_pure ⟨⟨rfl, rfl⟩, fun u hu => hl u (List.mem_cons_of_mem _ hu)⟩
  · obtain ⟨r1, r2⟩ := r
    obtain ⟨⟨hr, rfl⟩, _⟩ := hh
    simp only at hr
    subst hr
    exact wpAny_pure h
theorem byVal {k : List Key} {b : Addr} {Q : Bool → Shared → Prop} (hk : TQ P w s.heap k b) (h : ∀ r, Q r s) : wpAny (model P w) A (hashByValue 8 (.ref b)) Q E s := by
  have hT := hk.typeIs
  obtain ⟨o, its, n, ho, _, hd, hi⟩ := hk
  have hm := mix_items hi
  unfold hashByValue
  refine wpAny_bind (wpAny_specialOf hT F.slot_tuple_hash.lookup ?_)
  refine wpAny_bind (wpAny_seqItems ho hd ?_)
  refine wpAny_bind ?_
  show wpAny _ _ (forIn its _ _) _ _ s
  rw [← Array.forIn_toList]
  refine wpAny_forIn_list _ (fun l r s' => (r.1 = none ∧ s' = s) ∧ ∀ v ∈ l, v ∈ its.toList) _ (fun v l r s' hh => ?_) (fun r s' hh => ?_) _ _ ⟨⟨rfl, rfl⟩, fun v hv => hv⟩
  · obtain ⟨⟨hr, rfl⟩, hl⟩ := hh
    obtain ⟨b, hb⟩ := (hm v (hl v List.mem_cons_self)).2
    rw [hb]
    refine wpAny_bind (wpAny_pure ?_)
    cases b with
    | true =>
      simp only [Bool.not_true, Bool.false_eq_true, if_false]
      exact wpAny_pure ⟨⟨rfl, rfl⟩, fun u hu => hl u (List.mem_cons_of_mem _ hu)⟩
    | false =>
      simp only [Bool.not_false, if_true]
      exact wpAny_pure (wpAny_pure (h _))
  · obtain ⟨r1, r2⟩ := r
    obtain ⟨⟨hr, rfl⟩, _⟩ := hh
    simp only at hr
    subst hr
    exact wpAny_pure (h _)
theorem unseen {k : List Key} {b : Addr} {Q : Bool → Shared → Prop} (hk : TQ P w s.heap k b) {ys : List Value} (hy : ∀ y ∈ ys, ∃ k' c, y = Value.ref c ∧ TQ P w s.heap k' c) (h : Q false s) : wpAny (model P w) A (searchCouldBeSeen (.ref b) ys) Q E s := by
  unfold searchCouldBeSeen
  refine wpAny_bind ?_
  refine wpAny_forIn_list _ (fun l r s' => (r.1 = none ∧ s' = s) ∧ ∀ y ∈ l, y ∈ ys) _ (fun v l r s' hh => ?_) (fun r s' hh => ?_) _ _ ⟨⟨rfl, rfl⟩, fun v hv => hv⟩
  · obtain ⟨⟨hr, rfl⟩, hl⟩ := hh
    obtain ⟨k', c, rfl, hc⟩ := hy v (hl v List.mem_cons_self)
    have go : (none : Option Bool) = none ∧ s' = s' := ⟨rfl, rfl⟩
    have hl' : ∀ y ∈ l, y ∈ ys := fun u hu => hl u (List.mem_cons_of_mem _ hu)
    dsimp only
    by_cases hv : (b == c || (carriedByValue (.ref b) && carriedByValue (.ref c))) = true
    · rw [if_pos hv]
      exact wpAny_pure ⟨⟨rfl, rfl⟩, hl'⟩
    · rw [if_neg hv]
      refine wpAny_bind (wpAny_eqIsQuiet_tuple hk ?_)
      simp only [Bool.not_true, Bool.false_eq_true, if_false]
      refine wpAny_bind (wpAny_eqIsQuiet_tuple hc ?_)
      simp only [Bool.not_true, Bool.false_eq_true, if_false]
      refine wpAny_bind (noClass hk ?_)
      simp only [Bool.false_eq_true, if_false]
      refine wpAny_bind (noClass hc ?_)
      simp only [Bool.false_eq_true, if_false]
      exact wpAny_pure ⟨⟨rfl, rfl⟩, hl'⟩
  · obtain ⟨r1, r2⟩ := r
    obtain ⟨⟨hr, rfl⟩, _⟩ := hh
    simp only at hr
    subst hr
    exact wpAny_pure h

/-! ### the table: who stands in it -/
def rws (P : Program) (w : World) (L : List (Addr × List Key)) : List (Int × Value) := L.map fun p => (hsh P w p.2, Value.ref p.1)
/-- at a stands a set of the tuples L, each at its place in the table -/
structure SQ (P : Program) (w : World) (h : Heap) (a : Addr) (L : List (Addr × List Key)) (es : Array (Int × Value)) (ep : Nat) (t : SetTable) : Prop where
  ob : ∃ o, h.get? a = some o ∧ o.ExactSet ∧ o.data = .set es ep t
  rows : es.toList = rws P w L
  tab : TabOk t (L.map fun p => hsh P w p.2)
  tup : ∀ p ∈ L, TQ P w h p.2 p.1
  room : L.length * 5 < t.mask * 3
  few : L.length < 64
theorem rws_len (P : Program) (w : World) (L : List (Addr × List Key)) : (rws P w L).length = L.length := List.length_map _
theorem size_of_rows {es : Array (Int × Value)} {L : List (Addr × List Key)} (h : es.toList = rws P w L) : es.size = L.length := by
  have q := congrArg List.length h
  rw [rws_len] at q
  simpa using q
variable {a : Addr} {L : List (Addr × List Key)} {es : Array (Int × Value)} {ep : Nat} {t : SetTable}
theorem fits_of {n : Nat} (h1 : t.place.size = n) (h2 : t.dummies = #[]) (h3 : n ≤ t.mask) : t.fits n = true := by
  unfold SetTable.fits SetTable.fill
  rw [h2, Bool.and_eq_true, beq_iff_eq, decide_eq_true_eq]
  refine ⟨h1, ?_⟩
  show t.place.size + 0 ≤ t.mask
  omega
theorem SQ.sz (R : SQ P w s.heap a L es ep t) : es.size = L.length := size_of_rows R.rows
theorem SQ.psz (R : SQ P w s.heap a L es ep t) : t.place.size = L.length := by
  have h := R.tab.sz
  rw [List.length_map] at h
  exact h
theorem SQ.fit (R : SQ P w s.heap a L es ep t) : t.fits es.size = true := fits_of (by rw [R.sz, R.psz]) R.tab.dm (by rw [R.sz]; have := R.room; omega)
theorem SQ.ent (R : SQ P w s.heap a L es ep t) {i : Nat} {p : Addr × List Key} (h : L[i]? = some p) : es[i]? = some (hsh P w p.2, Value.ref p.1) := by
  rw [← Array.getElem?_toList, R.rows]
  unfold rws
  rw [List.getElem?_map, h] <;> rfl
abbrev pth (m : Nat) (h : Int) (c : Nat) : SetTable.Probe := nth m (runAt m (SetTable.bits h % (m + 1)) (SetTable.bits h)) c
theorem pth_dummy (m : Nat) (h : Int) (c : Nat) : (pth m h c).dummy = none := by
  have key : ∀ (n : Nat) (p : SetTable.Probe), p.dummy = none → (nth m p n).dummy = none := by
    intro n
    induction n with
    | zero => exact fun p h => h
    | succ n ih =>
      intro p h
      refine ih (adv m p) ?_
      unfold adv
      split <;> exact h
  exact key c _ rfl
theorem pth_add (m : Nat) (h : Int) (c q : Nat) : nth m (pth m h c) q = pth m h (c + q) := (nth_add m c _ q).symm
/-- what is not in the set finds its free slot, from the c-th step on -/
theorem seek_on (R : SQ P w s.heap a L es ep t) {x : Addr} {k : List Key} (hx : TQ P w s.heap k x) (hno : ∀ p ∈ L, p.2 ≠ k) (hu : A.units < cLine) {K : Nat} (hKf : K < 10 * SetTable.turns t.mask)
    (hK : way t.mask (hsh P w k) K ∉ t.place.toList) (hKb : ∀ c, c < K → way t.mask (hsh P w k) c ∈ t.place.toList) {Q : SetFound → Shared → Prop} (hq : Q (.free (way t.mask (hsh P w k) K) false) s) :
    ∀ (f c : Nat) (stand : Option SetTable.Probe), stand.getD (t.probeStart (hsh P w k)) = pth t.mask (hsh P w k) c → c ≤ K → K - c < f → wpAny (model P w) A (setSearchFrom a (.ref x) (hsh P w k) true f stand) Q E s := by
  intro f
  induction f with
  | zero => exact fun c stand _ _ hf => absurd hf (Nat.not_lt_zero _)
  | succ f ih =>
    intro c stand hst hc hf
    obtain ⟨o, ho, hex, hd⟩ := R.ob
    have gw : ¬ t.gaveWay = true := by
      unfold SetTable.gaveWay
      rw [mask_odd R.tab.mok]
      decide
    rw [setSearchFrom_succ]
    refine wpAny_bind (wpAny_setState_of ho hd R.fit ?_)
    dsimp only
    refine wp_if_neg gw ?_
    try refine wpAny_bind (wpAny_pure ?_)
    rcases go_spec t R.tab.ris R.tab.dm (fun i => (es[i]?.map (·.1)).getD 0) (hsh P w k) (10 * SetTable.turns t.mask) (K - c) (pth t.mask (hsh P w k) c) (pth_dummy _ _ _) (by omega)
      (fun q hq => by rw [pth_add]; exact hKb (c + q) (by omega)) (by rw [pth_add, show c + (K - c) = K by omega]; exact hK) with ⟨q, i, hq', hi, hh, _, hpr⟩ | ⟨_, hpr⟩
    · rw [pth_add, pth_add] at hpr
      rw [pth_add] at hi
      rw [show t.probe (fun i => (es[i]?.map (·.1)).getD 0) (hsh P w k) (stand.getD (t.probeStart (hsh P w k))) = some (.candidate (pth t.mask (hsh P w k) (c + q)).j i (pth t.mask (hsh P w k) (c + (q + 1)))) by rw [hst]; exact hpr]
      dsimp only
      have hil : i < L.length := by
        have h1 : i < t.place.toList.length := (List.getElem?_eq_some_iff.mp hi).1
        have h2 := R.psz
        rw [Array.length_toList] at h1
        omega
      obtain ⟨p, hp⟩ : ∃ p, L[i]? = some p := ⟨_, List.getElem?_eq_getElem hil⟩
      have hmem := List.mem_of_getElem? hp
      have hpk := hno p hmem
      have rest : wpAny (model P w) A (searchRest a (.ref x) (hsh P w k) true f es t (pth t.mask (hsh P w k) (c + q)).j i (pth t.mask (hsh P w k) (c + (q + 1)))) Q E s := by
        unfold searchRest
        rw [R.ent hp]
        dsimp only
        refine wpAny_bind (wpAny_holding (wpAny_eqBool_tuple hu (R.tup p hmem) hx ?_))
        refine wpAny_bind (wpAny_setState_of ho hd R.fit ?_)
        dsimp only
        refine wp_if_neg (by simp [hpk]) ?_
        try refine wpAny_bind (wpAny_pure ?_)
        rw [sameMem]
        dsimp only
        have hsl : t.slot (pth t.mask (hsh P w k) (c + q)).j = .live i := slot_live R.tab.ris hi
        simp only [if_true, hsl, R.ent hp]
        refine wpAny_bind (wpAny_isSame_ref_self (wpAny_bind (wpAny_pure ?_)))
        simp only [if_true]
        refine wp_if_neg (by simp [hpk]) ?_
        exact ih (c + (q + 1)) _ rfl (by omega) (by omega)
      by_cases hl : t.led = true
      · refine wp_if_neg (by simp [hl]) ?_
        try refine wpAny_bind (wpAny_pure ?_)
        exact rest
      · refine wp_if_pos (by simp [hl]) ?_
        refine wpAny_bind (unseen hx (fun y hy => ?_) ?_)
        · obtain ⟨e, he, ee⟩ := List.mem_map.mp hy
          have he1 : e ∈ es ∧ e.1 = hsh P w k := by simpa using he
          have he2 : e ∈ es.toList := by simpa using he1.1
          rw [R.rows] at he2
          obtain ⟨p2, hp2, e2⟩ := List.mem_map.mp he2
          exact ⟨p2.2, p2.1, by rw [← ee, ← e2], R.tup p2 hp2⟩
        · refine wp_if_neg (by decide) ?_
          try refine wpAny_bind (wpAny_pure ?_)
          exact rest
    · rw [pth_add, show c + (K - c) = K by omega] at hpr
      rw [show t.probe (fun i => (es[i]?.map (·.1)).getD 0) (hsh P w k) (stand.getD (t.probeStart (hsh P w k))) = some (.empty (way t.mask (hsh P w k) K) none) by rw [hst]; exact hpr]
      dsimp only
      exact wpAny_pure hq
theorem seek (R : SQ P w s.heap a L es ep t) {x : Addr} {k : List Key} (hx : TQ P w s.heap k x) (hno : ∀ p ∈ L, p.2 ≠ k) (hu : A.units < cLine) {Q : SetFound → Shared → Prop}
    (hq : ∀ K, way t.mask (hsh P w k) K ∉ t.place.toList → (∀ c, c < K → way t.mask (hsh P w k) c ∈ t.place.toList) → Q (.free (way t.mask (hsh P w k) K) false) s) : wpAny (model P w) A (setSearch a (.ref x) (hsh P w k) true) Q E s := by
  have hroom := R.room
  obtain ⟨K, hKf, hK, hKb⟩ := R.tab.first (by rw [List.length_map]; omega) (hsh P w k)
  have hbig : 10 * SetTable.turns t.mask ≤ 1420 := by
    unfold SetTable.turns
    rcases R.tab.mok with e | e | e <;> omega
  unfold setSearch
  exact seek_on R hx hno hu hKf hK hKb (hq K hK hKb) 100000 0 none rfl (Nat.zero_le _) (by omega)
end
end K41
namespace K41
open PySem PySem.Spec PyProof.Rows L2
section
variable {P : Program} {w : World} {A : Around} {E : Value → Shared → Prop} {s : Shared} {a : Addr} {L : List (Addr × List Key)} {es : Array (Int × Value)} {ep : Nat} {t : SetTable}
theorem TQ.but {h h' : Heap} {k : List Key} {a b : Addr} {o : Obj} {es : Array (Int × Value)} {ep : Nat} {t : SetTable} (hb : TQ P w h k b) (ho : h.get? a = some o) (hd : o.data = .set es ep t) (hs : Heap.SameBut a h h') : TQ P w h' k b := by
  obtain ⟨o', its, n, h1, h2, h3, h4⟩ := hb
  refine ⟨o', its, n, ?_, h2, h3, h4⟩
  refine (hs.2 b fun e => ?_).trans h1
  rw [e, ho] at h1
  cases h1
  rw [hd] at h3
  cases h3
/-- a picking of rows by their numbers -/
theorem picked {es : Array (Int × Value)} (hr : es.toList = rws P w L) : ∀ l : List Nat, (∀ i ∈ l, i < L.length) →
    l.filterMap (fun i => es[i]?) = rws P w (l.filterMap fun i => L[i]?) ∧ (l.filterMap fun i => L[i]?).map (fun p => hsh P w p.2) = l.map (fun i => (es.map (·.1)).getD i 0) ∧ (l.filterMap fun i => L[i]?).length = l.length
  | [], _ => ⟨rfl, rfl, rfl⟩
  | i :: l, h => by
    have hi := h i List.mem_cons_self
    obtain ⟨e1, e2, e3⟩ := picked hr l fun j hj => h j (List.mem_cons_of_mem _ hj)
    have q1 : L[i]? = some L[i] := List.getElem?_eq_getElem hi
    have q2 : es[i]? = some (hsh P w (L[i]).2, Value.ref (L[i]).1) := by
      rw [← Array.getElem?_toList, hr]
      unfold rws
      rw [List.getElem?_map, q1] <;> rfl
    have q3 : (es.map (·.1)).getD i 0 = hsh P w (L[i]).2 := by
      have e5 : (es.map (·.1))[i]? = some (hsh P w (L[i]).2) := by rw [Array.getElem?_map, q2] <;> rfl
      simp [Array.getD_eq_getD_getElem?, e5]
    rw [List.filterMap_cons_some q1, List.filterMap_cons_some q2, List.map_cons, List.map_cons, List.length_cons, List.length_cons, e1, e2, e3, q3]
    exact ⟨rfl, rfl, rfl⟩
/-- the table made larger -/
theorem grow {o : Obj} (ho : s.heap.get? a = some o) (hex : o.ExactSet) (hd : o.data = .set es ep t) (hr : es.toList = rws P w L) (hT : TabOk t (L.map fun p => hsh P w p.2)) (hfl : L.length ≤ t.mask)
    (tup : ∀ p ∈ L, TQ P w s.heap p.2 p.1) (few : L.length < 64) {wanted M : Nat} (hw : SetTable.sizeAbove wanted - 1 = M) (hM : MaskOk M) (hw2 : SetTable.sizeAbove wanted ≤ 128) (hn : L.length * 5 < M * 3) {Q : Unit → Shared → Prop}
    (hQ : ∀ h' L' es' ep' t', Heap.SameBut a s.heap h' → SQ P w h' a L' es' ep' t' → L'.length = L.length → (∀ p ∈ L', p ∈ L) → Q () { s with heap := h' }) : wpAny (model P w) A (setRelay a wanted) Q E s := by
  have hsl := size_of_rows hr
  have hps : t.place.size = L.length := by
    have h := hT.sz
    rw [List.length_map] at h
    exact h
  obtain ⟨t', order, e, hp, T, em, el, _, ed⟩ := relaid_ok t (hs := es.map (·.1)) (wanted := wanted) hw hM (by rw [Array.size_map, hsl]; omega)
  rw [Array.size_map, hsl] at hp
  obtain ⟨r1, r2, r3⟩ := picked hr order.toList fun i hi => List.mem_range.mp (hp.mem_iff.mp hi)
  have r0 : (order.filterMap (es[·]?)).toList = rws P w (order.toList.filterMap fun i => L[i]?) := by
    rw [Array.toList_filterMap]
    exact r1
  have rl : (order.toList.filterMap fun i => L[i]?).length = L.length := by
    rw [r3, hp.length_eq, List.length_range]
  rw [← r2] at T
  generalize hL2 : (order.toList.filterMap fun i => L[i]?) = L2 at r0 rl T
  have sub : ∀ p ∈ L2, p ∈ L := fun p hpm => by
    rw [← hL2] at hpm
    obtain ⟨i, _, hi⟩ := List.mem_filterMap.mp hpm
    exact List.mem_of_getElem? hi
  have hs2 : (order.filterMap (es[·]?)).size = es.size := by rw [size_of_rows r0, rl, hsl]
  rw [setRelay_eq]
  refine wpAny_bind (wpAny_setState_of ho hd (fits_of (by rw [hps, hsl]) hT.dm (by omega)) ?_)
  dsimp only
  refine wp_if_neg (by rw [sizeLine_eq]; omega) ?_
  try refine wpAny_bind (wpAny_pure ?_)
  rw [e]
  dsimp only
  refine wpAny_bind ?_
  refine wp_if_neg (by rw [hs2]; simp) ?_
  try refine wpAny_bind (wpAny_pure ?_)
  refine wpAny_pure ?_
  dsimp only
  refine wpAny_storeSet_of ho hd ?_ (by rw [hs2, hsl, sizeLine_eq]; omega)
  have sb : Heap.SameBut a s.heap (s.heap.update a (Obj.putSet (order.filterMap (es[·]?)) t')) := Heap.SameBut.update ..
  exact hQ _ L2 _ (ep + 1) t' sb ⟨⟨_, store_at ho hd, ⟨hex.1, hex.2.1, hex.2.2⟩, rfl⟩, r0, T, fun p hp => (tup p (sub p hp)).but ho hd sb, by rw [rl, em]; exact hn, by rw [rl]; exact few⟩ rl sub
theorem tabDull {hs : List Int} (T : TabOk t hs) (b : Bool) : TabOk { t with plain := b } hs := ⟨T.ris, T.dm, T.sz, T.mok, T.bd, T.reach⟩
/-- a new one is put in -/
theorem putIn (R : SQ P w s.heap a L es ep t) {x : Addr} {k : List Key} (hx : TQ P w s.heap k x) (hno : ∀ p ∈ L, p.2 ≠ k) (hu : A.units < cLine) (hfew : L.length + 1 < 64) {Q : Bool → Shared → Prop}
    (hQ : ∀ b h' L' es' ep' t', Heap.SameBut a s.heap h' → SQ P w h' a L' es' ep' t' → L'.length = L.length + 1 → (∀ p ∈ L', p = (x, k) ∨ p ∈ L) → Q b { s with heap := h' }) :
    wpAny (model P w) A (setAddHashed a (.ref x) (hsh P w k)) Q E s := by
  obtain ⟨o, ho, hex, hd⟩ := R.ob
  have hroom := R.room
  unfold setAddHashed
  refine wpAny_holding ?_
  rw [show (100000 : Nat) = 99999 + 1 from rfl, setAddHashedIn_succ]
  refine wpAny_bind (wpAny_setState_of ho hd R.fit ?_)
  dsimp only
  refine wp_if_neg (by simp [byScan, Value.scannable]) ?_
  try refine wpAny_bind (wpAny_pure ?_)
  refine wpAny_bind (seek R hx hno hu fun K hK hb => ?_)
  dsimp only
  refine wpAny_bind (wpAny_setState_of ho hd R.fit ?_)
  dsimp only
  obtain ⟨q1, q2, q3, q4, q5, q6, q7, q8, q9⟩ := R.tab.put hK hb
  generalize hpt : t.put (way t.mask (hsh P w k) K) = pt at q1 q3 q4 q5 q6 q7 q8 q9 ⊢
  obtain ⟨t1, p⟩ := pt
  dsimp only at q1 q3 q4 q5 q6 q7 q8 q9 ⊢
  subst q1
  -- the rows with the new one
  obtain ⟨j, hj⟩ : ∃ j, j = SetTable.below t.place (way t.mask (hsh P w k) K) := ⟨_, rfl⟩
  rw [← hj] at q2 q3 ⊢
  have hin : (SetTable.insertAt es j (hsh P w k, Value.ref x)).toList = rws P w (L.take j ++ (x, k) :: L.drop j) := by
    rw [SetTable.toList_insertAt, R.rows]
    unfold rws
    rw [List.map_append, List.map_cons, List.map_take, List.map_drop]
  have hmem : ∀ p ∈ L.take j ++ (x, k) :: L.drop j, p = (x, k) ∨ p ∈ L := fun p hp => by
    rcases List.mem_append.mp hp with z | z
    · exact .inr (List.mem_of_mem_take z)
    · rcases List.mem_cons.mp z with z | z
      · exact .inl z
      · exact .inr (List.mem_of_mem_drop z)
  have hlen : (L.take j ++ (x, k) :: L.drop j).length = L.length + 1 := by
    rw [List.length_map] at q2
    rw [List.length_append, List.length_cons, List.length_take, List.length_drop]
    omega
  have hhs : (L.take j ++ (x, k) :: L.drop j).map (fun p => hsh P w p.2) = (L.map fun p => hsh P w p.2).take j ++ hsh P w k :: (L.map fun p => hsh P w p.2).drop j := by
    rw [List.map_append, List.map_cons, List.map_take, List.map_drop]
  rw [← hhs] at q3
  have hes := size_of_rows hin
  rw [hlen] at hes
  generalize SetTable.insertAt es j (hsh P w k, Value.ref x) = es1 at hin hes ⊢
  generalize L.take j ++ (x, k) :: L.drop j = L1 at hlen q3 hin hmem
  have main : ∀ t2 : SetTable, TabOk t2 (L1.map fun p => hsh P w p.2) → t2.mask = t.mask → t2.tooFull = t1.tooFull → wpAny (model P w) A (do
      storeSet a es1 t2
      if !false && t2.tooFull then setRelay a (SetTable.grown (es.size + 1))
      return true) Q E s := by
    intro t2 T2 m2 full2
    refine wpAny_bind (wpAny_storeSet_of ho hd ?_ (by rw [hes, sizeLine_eq]; omega))
    have sb : Heap.SameBut a s.heap (s.heap.update a (Obj.putSet es1 t2)) := Heap.SameBut.update ..
    have ho1 := store_at (es' := es1) (t' := t2) ho hd
    generalize s.heap.update a (Obj.putSet es1 t2) = h1 at sb ho1 ⊢
    have tup1 : ∀ p ∈ L1, TQ P w h1 p.2 p.1 := fun p hp => by
      rcases hmem p hp with e | hp
      · rw [e]; exact hx.but ho hd sb
      · exact (R.tup p hp).but ho hd sb
    by_cases hf : t2.tooFull = true
    · have hfull : (L.length + 1) * 5 ≥ t.mask * 3 := by
        rw [full2] at hf
        unfold SetTable.tooFull at hf
        rw [decide_eq_true_eq, q9, List.length_map, q4] at hf
        exact hf
      have cases2 : (t.mask = 7 ∧ L.length = 4) ∨ (t.mask = 31 ∧ L.length = 18) := by
        rcases R.tab.mok with e | e | e
        · left; rw [e] at hfull hroom; exact ⟨e, by omega⟩
        · right; rw [e] at hfull hroom; exact ⟨e, by omega⟩
        · exfalso; rw [e] at hfull; omega
      rw [R.sz]
      have go : ∀ M, SetTable.sizeAbove (SetTable.grown (L.length + 1)) - 1 = M → MaskOk M → SetTable.sizeAbove (SetTable.grown (L.length + 1)) ≤ 128 → (L.length + 1) * 5 < M * 3 →
          wpAny (model P w) A (setRelay a (SetTable.grown (L.length + 1))) (fun _ s' => wpAny (model P w) A (pure true) Q E s') E { s with heap := h1 } := fun M h1' h2' h3' h4' => by
        refine grow (s := { s with heap := h1 }) ho1 ⟨hex.1, hex.2.1, hex.2.2⟩ rfl hin T2 (by rw [hlen, m2]; rcases cases2 with ⟨e, e2⟩ | ⟨e, e2⟩ <;> omega) tup1 (by rw [hlen]; exact hfew) h1' h2' h3' (by rw [hlen]; exact h4') ?_
        intro h2 L2 es2 ep2 t3 sb2 R2 l2 sub2
        exact wpAny_pure (hQ true h2 L2 es2 ep2 t3 (sb.trans sb2) R2 (l2.trans hlen) fun p hp => hmem p (sub2 p hp))
      have go2 : wpAny (model P w) A (setRelay a (SetTable.grown (L.length + 1))) (fun _ s' => wpAny (model P w) A (pure true) Q E s') E { s with heap := h1 } := by
        rcases cases2 with ⟨_, e2⟩ | ⟨_, e2⟩
        · exact go 31 (by rw [e2, size_20]) (.inr (.inl rfl)) (by rw [e2, size_20]; decide) (by omega)
        · exact go 127 (by rw [e2, size_76]) (.inr (.inr rfl)) (by rw [e2, size_76]; decide) (by omega)
      first
        | (refine wpAny_bind ?_; refine wp_if_pos (by simp [hf]) ?_; exact go2)
        | (refine wp_if_pos (by simp [hf]) ?_; refine wpAny_bind ?_; exact go2)
    · first
        | refine wp_if_neg (by simp [hf]) ?_
        | (refine wpAny_bind ?_; refine wp_if_neg (by simp [hf]) ?_; refine wpAny_pure ?_)
      refine wpAny_pure (hQ true h1 L1 es1 (ep + 1) t2 sb ⟨⟨_, ho1, ⟨hex.1, hex.2.1, hex.2.2⟩, rfl⟩, hin, T2, tup1, ?_, by rw [hlen]; exact hfew⟩ hlen hmem)
      rw [full2] at hf
      unfold SetTable.tooFull at hf
      rw [decide_eq_true_eq, q9, List.length_map, q4] at hf
      rw [hlen, m2]
      omega
  by_cases hp1 : t1.plain = true
  · first
      | (refine wpAny_bind ?_; refine wp_if_pos hp1 ?_; refine byVal hx fun r => ?_)
      | refine wp_if_pos hp1 (wpAny_bind (byVal hx fun r => ?_))
    cases r with
    | true =>
      simp only [if_true]
      exact main t1 q3 q4 rfl
    | false =>
      simp only [Bool.false_eq_true, if_false]
      exact main { t1 with plain := false } (tabDull q3 false) q4 rfl
  · first
      | (refine wpAny_bind ?_; refine wp_if_neg hp1 ?_; refine wpAny_pure ?_)
      | refine wp_if_neg hp1 (wpAny_bind (wpAny_pure ?_))
      | refine wp_if_neg hp1 ?_
    simp only [if_true]
    exact main t1 q3 q4 rfl
end
end K41
namespace K41
open PySem PySem.Spec PyProof.Rows L2
section
variable {P : Program} {w : World} {A : Around} {E : Value → Shared → Prop} {s : Shared}
theorem SQ.moved {h h' : Heap} {a : Addr} {L : List (Addr × List Key)} {es : Array (Int × Value)} {ep : Nat} {t : SetTable} (R : SQ P w h a L es ep t) (ha : ∀ o, h.get? a = some o → h'.get? a = some o) (ht : ∀ p ∈ L, TQ P w h' p.2 p.1) : SQ P w h' a L es ep t := by
  obtain ⟨o, ho, r⟩ := R.ob
  exact ⟨⟨o, ha o ho, r⟩, R.rows, R.tab, ht, R.room, R.few⟩
theorem TQ.kept {h h' : Heap} {k : List Key} {b : Addr} (x : TQ P w h k b) (hk : ∀ c o, h.get? c = some o → h'.get? c = some o) : TQ P w h' k b := by
  obtain ⟨o, items, n, ho, r⟩ := x
  exact ⟨o, items, n, hk b o ho, r⟩
/-- what the set is after i items -/
def Upto (P : Program) (w : World) (h : Heap) (S : Addr) (ks : List (Addr × List Key)) (i : Nat) : Prop := ∃ L es ep t, SQ P w h S L es ep t ∧ L.length = i ∧ ∀ p ∈ L, p ∈ ks.take i
def Near (s0 s : Shared) : Prop := s.gens = s0.gens ∧ s.drawn = s0.drawn ∧ s.os = s0.os
theorem take_snoc {α : Type} {l : List α} {i : Nat} {x : α} (h : l[i]? = some x) : l.take (i + 1) = l.take i ++ [x] := by
  rw [List.take_succ, h]
  rfl
theorem upd_loop {I : Addr} {fp wr : List Addr} {n : Nat} {Pv : Nat → Value → Prop} {St : Nat → Shared → Prop} {R : Result → Shared → Prop}
    (W : WalksS P w A.in1 I fp wr (fun a b => b = a) n Pv St) (S : Addr) (hSf : S ∉ fp) (ks : List (Addr × List Key)) (hnd : (ks.map (·.2)).Nodup) (hn : n = ks.length) (hfew : ks.length < 64) (hval : ∀ i v, Pv i v → ∃ p, ks[i]? = some p ∧ v = .ref p.1)
    (h0 : Heap) (s0 : Shared) (hk : ∀ p ∈ ks, TQ P w h0 p.2 p.1) (hS0 : h0.get? S = none) (hw0 : ∀ b ∈ wr, h0.get? b = none) (hu : A.in1.units < cLine)
    (hfin : ∀ s', Near s0 s' → Upto P w s'.heap S ks n → (∀ b o, h0.get? b = some o → s'.heap.get? b = some o) → R (.ok (.ret .none)) s') :
    ∀ (k i : Nat) (s : Shared), n - i = k → i ≤ n → St i s → Near s0 s → (∀ b o, h0.get? b = some o → s.heap.get? b = some o) → Upto P w s.heap S ks i → codeAny (model P w) A (.builtin "set.update.loop" ⟨[.ref S, .ref I], []⟩) R s := by
  have hSw : S ∉ wr := fun h => hSf (W.sub _ h)
  intro k
  induction k with
  | zero =>
    intro i s hk' hi hst hne hkp hU
    have hin : i = n := by omega
    subst hin
    refine codeAny_builtin F.entry_set_update_loop ?_
    rw [Around.under_plainId F.plain_set_update_loop _]
    show wpAny _ A.in1 (pyNext (.ref I) >>= _) _ _ s
    refine wpAny_bind (W.done s _ _ hst fun s' hm => ?_)
    show wpAny _ A.in1 (ret Value.none) _ _ s'
    have hkp' : ∀ b o, h0.get? b = some o → s'.heap.get? b = some o := fun b o e => hm.heap b o (fun hb => by rw [hw0 b hb] at e; cases e) (hkp b o e)
    obtain ⟨L, es, ep, t, R, hl, sub⟩ := hU
    refine wpAny_pure (hfin s' ⟨hm.gens.trans hne.1, hm.drawn.trans hne.2.1, hm.os.trans hne.2.2⟩ ⟨L, es, ep, t, R.moved (fun o e => hm.heap S o hSw e) fun p hp => (hk p (List.mem_of_mem_take (sub p hp))).kept hkp', hl, sub⟩ hkp')
  | succ k ih =>
    intro i s hk' hi hst hne hkp hU
    have hlt : i < n := by omega
    refine codeAny_builtin F.entry_set_update_loop ?_
    rw [Around.under_plainId F.plain_set_update_loop _]
    show wpAny _ A.in1 (pyNext (.ref I) >>= _) _ _ s
    refine wpAny_bind (W.item i s _ _ hlt hst fun v s' hP hst' hm => ?_)
    obtain ⟨p, hp, rfl⟩ := hval i v hP
    have hkp' : ∀ b o, h0.get? b = some o → s'.heap.get? b = some o := fun b o e => hm.heap b o (fun hb => by rw [hw0 b hb] at e; cases e) (hkp b o e)
    obtain ⟨L, es, ep, t, R, hl, sub⟩ := hU
    have R' : SQ P w s'.heap S L es ep t := R.moved (fun o e => hm.heap S o hSw e) fun q hq => (hk q (List.mem_of_mem_take (sub q hq))).kept hkp'
    have hx : TQ P w s'.heap p.2 p.1 := (hk p (List.mem_of_getElem? hp)).kept hkp'
    have hno : ∀ q ∈ L, q.2 ≠ p.2 := fun q hq e => by
      have hq2 := sub q hq
      obtain ⟨j, hj, ej⟩ := List.mem_iff_getElem.mp hq2
      rw [List.length_take] at hj
      rw [List.getElem_take] at ej
      have hi' : i < ks.length := by omega
      have hji : j < ks.length := by omega
      have ep' : ks[i] = p := by
        rw [List.getElem?_eq_getElem hi'] at hp
        exact Option.some.inj hp
      have g1 : (ks.map (·.2))[j]'(by rw [List.length_map]; exact hji) = (ks.map (·.2))[i]'(by rw [List.length_map]; exact hi') := by
        rw [List.getElem_map, List.getElem_map, ej, ep', e]
      have := (List.getElem_inj hnd).mp g1
      omega
    show wpAny _ A.in1 (holding [Value.ref p.1] (setAdd S (.ref p.1)) >>= _) _ _ s'
    refine wpAny_bind (wpAny_holding ?_)
    unfold setAdd
    refine wpAny_holding ?_
    refine wpAny_bind (wpAny_pyHash_tuple hu hx ?_)
    refine putIn (s := { s' with toks := s'.toks + (p.2.length + 1) }) R' hx hno hu (by omega) fun b h' L' es' ep' t' hsb R2 l2 sub2 => ?_
    have hkp2 : ∀ b o, h0.get? b = some o → h'.get? b = some o := fun b o e => (hsb.2 b (fun z => by rw [z, hS0] at e; cases e)).trans (hkp' b o e)
    refine wpAny_pure ⟨plainId_quiet F.plain_set_update_loop _, ih (i + 1) _ (by omega) hlt (W.frame _ s' _ _ hst' (Nat.le_add_right _ _) fun b hb o e => ?_) ⟨hm.gens.trans hne.1, hm.drawn.trans hne.2.1, hm.os.trans hne.2.2⟩ hkp2 ⟨L', es', ep', t', R2, by omega, fun q hq => ?_⟩⟩
    · rw [hsb.2 b (fun h : b = S => hSf (by rw [← h]; exact hb))]
      exact e
    · rw [take_snoc hp]
      rcases sub2 q hq with e | hq
      · rw [e]
        exact List.mem_append_right _ (List.mem_singleton.mpr rfl)
      · exact List.mem_append_left _ (sub q hq)
/-- set(xs) -/
theorem call_setQ {l : Addr} {items : Array Value} (ks : List (Addr × List Key)) (hnd : (ks.map (·.2)).Nodup) {Q : Value → Shared → Prop} (hh : A.handled = none) (hl : s.heap.IsList l items) (hit : items.toList = ks.map fun p => Value.ref p.1)
    (hk : ∀ p ∈ ks, TQ P w s.heap p.2 p.1) (hfew : ks.length < 64) (hu : A.units + 3 < cLine)
    (h : ∀ (h' : Heap) (tk : Nat), Upto P w h' s.heap.objs.size ks ks.length → (∀ b o, s.heap.get? b = some o → h'.get? b = some o) → Q (.ref s.heap.objs.size) { s with heap := h', toks := tk }) :
    wpAny (model P w) A (call (.type "set") [.ref l]) Q E s := by
  have hisz : items.size = ks.length := by
    have q := congrArg List.length hit
    rw [Array.length_toList, List.length_map] at q
    exact q
  obtain ⟨c, tl, hmro⟩ := F.called_set.mro
  have hmade := F.called_set.made
  have hsub := F.called_set.sub
  refine wpAny_call (codeAny_of_tree ?_)
  show wpAny _ _ (callAny (.type "set") _) _ _ _
  refine wpAny_pure ⟨Code.quiet_builtin _ (by decide +kernel), codeAny_builtin F.entry_type_call ?_⟩
  rw [Around.under_plain (weight_type_call_type "set" [.ref l] []) rfl]
  have h1 := F.called_set.notType
  have h2 := F.called_set.canCreate
  have hct := F.typeCall_set_1 (.ref l)
  repeat (any_goals (first | assumption | wp_step))
  refine codeAny_mono (code_set_led1 (.ref l) (E := E) (Q₁ := fun obj s₁ => obj = .ref s.heap.objs.size ∧ s₁ = { s with heap := s.heap.push ({ cls := .type "set", dict := none, data := .set #[] 0 (.fresh 0 0 (!w.params.followText "set-order")) } : Obj) }) ⟨rfl, rfl⟩) fun r s₁ hr => ?_
  cases r with
  | error e => exact hr
  | ok fl =>
    cases fl with
    | ret obj =>
      obtain ⟨rfl, rfl⟩ := hr
      have hS : (s.heap.push ({ cls := .type "set", dict := none, data := .set #[] 0 (.fresh 0 0 (!w.params.followText "set-order")) } : Obj)).get? s.heap.objs.size = some ({ cls := .type "set", dict := none, data := .set #[] 0 (.fresh 0 0 (!w.params.followText "set-order")) } : Obj) := Heap.get?_push_size _ rfl
      have hT : Shared.TypeIs { s with heap := s.heap.push ({ cls := .type "set", dict := none, data := .set #[] 0 (.fresh 0 0 (!w.params.followText "set-order")) } : Obj) } (.ref s.heap.objs.size) "set" := ⟨_, hS, rfl⟩
      have hli := F.called_set.init.lookup
      have hbi := F.called_set.init.bind (.ref s.heap.objs.size)
      repeat (any_goals (first | assumption | wp_step))
      refine codeAny_mono (codeAny_call_builtin (R := wants (fun r s₂ => r = .none ∧ ∃ h' tk, s₂ = { s with heap := h', toks := tk } ∧ Upto P w h' s.heap.objs.size ks ks.length ∧
          (∀ b o, s.heap.get? b = some o → h'.get? b = some o)) E) F.called_set.init.plain F.entry_set_init (check_set_init_1 hT ?_)) fun r₂ s₂ hr₂ => ?_
      · obtain ⟨ol, hol, hcl, nl, hdl⟩ := hl
        obtain ⟨ocls, odict, odata, oslots⟩ := ol
        simp only at hcl hdl
        subst hcl hdl
        have hol' : (s.heap.push ({ cls := .type "set", dict := none, data := .set #[] 0 (.fresh 0 0 (!w.params.followText "set-order")) } : Obj)).get? l = some { cls := .type "list", dict := odict, data := .seq items nl, slots := oslots } := Heap.get?_push_of_some _ hol
        have hsls := F.sub_list_set
        have hslf := F.sub_list_frozenset
        have hne : (Value.type "list" == Value.type "dict") = false := by decide
        have hl1 : (s.heap.push ({ cls := .type "set", dict := none, data := .set #[] 0 (.fresh 0 0 (!w.params.followText "set-order")) } : Obj)).IsList l items := ⟨_, hol', rfl, nl, rfl⟩
        unfold Builtin.«set.__init__» noKeywords Builtin.Frozenset.updateFrom
        generalize hPI : pyIter = PI
        wp_walk
        subst hPI
        refine wpAny_pyIter_list hl1 ?_
        refine wpAny_bind (wpAny_runValue ?_)
        have hlS : l < s.heap.objs.size := Heap.lt_size hol
        have hz1 : (s.heap.push ({ cls := .type "set", dict := none, data := .set #[] 0 (.fresh 0 0 (!w.params.followText "set-order")) } : Obj)).objs.size = s.heap.objs.size + 1 := Heap.size_push ..
        have hneI : l ≠ (s.heap.push ({ cls := .type "set", dict := none, data := .set #[] 0 (.fresh 0 0 (!w.params.followText "set-order")) } : Obj)).objs.size := by
          rw [hz1]
          exact Nat.ne_of_lt (Nat.lt_succ_of_lt hlS)
        have hSf : s.heap.objs.size ∉ [(s.heap.push ({ cls := .type "set", dict := none, data := .set #[] 0 (.fresh 0 0 (!w.params.followText "set-order")) } : Obj)).objs.size, l] := by
          rw [hz1]
          simp only [List.mem_cons, List.not_mem_nil, or_false, not_or]
          exact ⟨Nat.ne_of_lt (Nat.lt_succ_self _), Nat.ne_of_gt hlS⟩
        have hval : ∀ (i : Nat) (v : Value), items[i]? = some v → ∃ p, ks[i]? = some p ∧ v = .ref p.1 := fun i v hv => by
          have q : items.toList[i]? = some v := by rw [Array.getElem?_toList]; exact hv
          rw [hit, List.getElem?_map] at q
          obtain ⟨p, hp, e⟩ := Option.map_eq_some_iff.mp q
          exact ⟨p, hp, e.symm⟩
        have none_of : ∀ b, s.heap.objs.size ≤ b → s.heap.get? b = none := fun b hb => Heap.get?_none_of_le hb
        refine upd_loop ((Walks.list (by simp [hh]) _ l hneI items).toS) s.heap.objs.size hSf ks hnd hisz hfew hval s.heap s hk (none_of _ (Nat.le_refl _)) (fun b hb => none_of b (by
            rw [List.mem_singleton.mp hb, hz1]
            exact Nat.le_succ _)) hu ?hR (items.size - 0) 0 _ (by omega) (Nat.zero_le _)
          ⟨⟨_, Heap.get?_push_size _ rfl, rfl, rfl⟩, (hl1.push _)⟩ ⟨rfl, rfl, rfl⟩ (fun b o e => Heap.get?_push_of_some _ (Heap.get?_push_of_some _ e)) ?hS0
        case hS0 =>
          have hget : ((s.heap.push ({ cls := .type "set", dict := none, data := .set #[] 0 (.fresh 0 0 (!w.params.followText "set-order")) } : Obj)).push { cls := .type "list_iterator", data := .fields #[.ref l, .int 0 0] }).get? s.heap.objs.size = some ({ cls := .type "set", dict := none, data := .set #[] 0 (.fresh 0 0 (!w.params.followText "set-order")) } : Obj) := Heap.get?_push_of_some _ hS
          refine ⟨[], #[], 0, .fresh 0 0 (!w.params.followText "set-order"), ⟨⟨_, hget, ⟨rfl, rfl, rfl⟩, rfl⟩, rfl, ⟨List.Pairwise.nil, rfl, rfl, .inl rfl, fun x hx => absurd hx (by simp [SetTable.fresh]), fun i h j hi => absurd hi (by simp)⟩, fun p hp => absurd hp (by simp), by show 0 * 5 < 7 * 3; decide, by show 0 < 64; decide⟩, rfl, fun p hp => absurd hp (by simp)⟩
        case hR =>
          intro s' hnr hU hkp
          obtain ⟨h', g2, d', tk', os'⟩ := s'
          obtain ⟨e1, e2, e3⟩ := hnr
          simp only at e1 e2 e3
          subst e1 e2 e3
          refine wpAny_pure ?_
          rw [hisz] at hU
          exact wpAny_pure ⟨rfl, h', tk', rfl, hU, hkp⟩
      · cases r₂ with
        | error e => exact hr₂
        | ok fl₂ =>
          cases fl₂ with
          | ret r =>
            obtain ⟨rfl, h', tk, rfl, hU, hk'⟩ := hr₂
            repeat (any_goals (first | assumption | wp_step))
            exact h _ _ hU hk'
          | _ => exact hr₂.elim
    | _ => exact hr.elim
end
section
variable {X : Cx}
theorem rfs {ks : List (Addr × List Key)} : ∀ {us : List Value}, Vals (ks.map fun p => V.ref p.1) us → us = ks.map fun p => Value.ref p.1 := by
  induction ks with
  | nil =>
    intro us r
    cases r
    rfl
  | cons k ks ih =>
    intro us r
    cases r with
    | @cons a b as bs r1 r2 =>
      obtain rfl : b = Value.ref k.1 := r1
      rw [List.map_cons, ← ih r2]
/-- len(set(xs)) of unlike tuples -/
def tLenSetQ (K : PySem.W.Frag) (ta : TE) : TE := fun σ H Q => ta σ H fun x H1 => ∃ (l : Addr) (ks : List (Addr × List Key)), x = V.ref l ∧ SqL K H1 l (ks.map fun p => V.ref p.1) ∧ (∀ p ∈ ks, SqT K H1 p.1 (p.2.map kV)) ∧ (ks.map (·.2)).Nodup ∧ ks.length < 64 ∧ Q (.int ks.length) H1
theorem pe_lenSetQ {e : Expr} {ta : TE} {p p2 q pos : Pos} (hc : X.calm = true) (hu : X.A.units + 20 < cLine) (hg : Gl X "len") (hm : X.mg "len" = none) (hg2 : Gl X "set") (hm2 : X.mg "set" = none) (ha : PE X e ta)
    (na : starEach [e] X.env = (false, eval e X.env) :: starEach [] X.env := by rfl) : PE X (.Call (.Name "len" p) [.Call (.Name "set" p2) [e] [] q] [] pos) (tLenSetQ X.K ta) := by
  refine ⟨fun pins s σ H Q I h => ?_⟩
  refine Call_ (ld_blt I hg hm PySem.boot_len ?_)
  refine PyProof.Rows.callWith_builtin1 (PyProof.Rows.args_cons ?_ rfl) rfl rfl
  refine Call_ (ld_blt I hg2 hm2 PyProof.Rows.boot_set ?_)
  refine PyProof.Rows.callWith_type1 (PyProof.Rows.args_cons (thn (ha.run pins s σ H _ I h) fun v s1 ⟨x, H1, I1, r1, q1⟩ => PyProof.Rows.args_nil ?_) na) na rfl
  obtain ⟨l, ks, rfl, hq, ht, hnd, h64, q1⟩ := q1
  cases r1
  obtain ⟨its, r, pl, hz⟩ := I1.list hq
  have hrefs : its = ks.map fun p => Value.ref p.1 := rfs r
  refine call_setQ (A := X.A) ks hnd (I1.ok.hd hc) pl.isList (by rw [← hrefs]) (fun p hp => ?_) h64 (by omega) fun h' tk hU hk => ?_
  · obtain ⟨it2, r2, ⟨o, ho, hcl, n, hd⟩, _⟩ := I1.tuple (ht p hp)
    exact ⟨o, it2.toArray, n, ho, hcl, hd, by simpa using items_are r2⟩
  · refine PyProof.Rows.args_nil ?_
    obtain ⟨L, es, ep, t, R, hl, _⟩ := hU
    have hfit := R.fit (s := { s1 with heap := h', toks := tk })
    have hsz := R.sz (s := { s1 with heap := h', toks := tk })
    obtain ⟨o, ho, hex, hd⟩ := R.ob
    have I2 : Inv X pins σ H1 { s1 with heap := h', toks := tk } := I1.kept hk
    refine call_len_set ho hex hd hfit (by omega) ⟨.int ks.length, H1, I2.tok _, ⟨_, by rw [hsz, hl]⟩, q1⟩
end
end K41
set_option maxHeartbeats 4000000
namespace K41
open PySem PySem.Spec PyProof.Rows L2 PySem.W PySem.Calls
/-! ### a != b where the class has its own __eq__ alone, and the two are equal -/
section
variable {prog : Program} {w : World} {A : Around} {E : Value → Shared → Prop} {s : Shared} {K : Frag} {x C L f : Addr} {h₀ : Heap} {m : Str → Option Value} {ox : Obj} {od : Option Obj} {name : Str} {b tb : Value}
theorem ifBoundB {M : Model} {args : List Value} {id : String} {Q : Option Value → Shared → Prop} (X : K.In s.heap) (I : InstAt s.heap x ox C od) (hs : findIn K (.ref C) name = some (some (.builtin id))) (hb : bindSpecial (.builtin id) (.ref x) = pure (.builtin id, [.ref x]))
    (h : wpAny M A (call (.builtin id) (.ref x :: args)) (fun v => Q (some v)) E s) : wpAny M A (callSpecialIfBound? (.ref x) name args) Q E s := by
  simp only [callSpecialIfBound?, bindSpecialIfBound?]
  refine wpAny_holding (wpAny_bind (wpAny_bind (wpAny_bind (I.type.here ((looks_findIn X hs).here ?_)))))
  simp only [hb]
  refine wpAny_bind (wpAny_askSetting (wpAny_ite ?_))
  have fin : wpAny M A (call (.builtin id) ([.ref x] ++ args) >>= fun v => pure (some v)) Q E s := wpAny_bind (wpAny_mono h (fun v s' h' => wpAny_pure h') fun _ _ h' => h')
  split
  · exact wpAny_bind (wpAny_pure (wpAny_pure fin))
  · exact wpAny_tryCatch (wpAny_bind (wpAny_pure (wpAny_pure fin)))
theorem neOf {Q : Value → Shared → Prop} (hu : A.units + 2 < cLine) (F : Fr h₀ L s.heap m) (X₀ : K.In h₀) (I : InstAt s.heap x ox C od) (hb : Looks (model prog w) s.heap (typeOf b) tb) (hn : notFirst K C tb = true)
    (hne : findIn K (.ref C) "__ne__" = some (some (.builtin "object.__ne__"))) (hob : subIn K (.ref C) (.type "object") = some true) (heq : findIn K (.ref C) "__eq__" = some (some (.ref f))) (hf : isFn K (.ref f) = true)
    (h : wpAny (model prog w) A.in1 (call (.ref f) [.ref x, b]) (fun v s' => v = .bool true ∧ Q (.bool false) s') E s) : wpAny (model prog w) A (richCompare .NotEq (.ref x) b) Q E s := by
  have X := X₀.keeps F.keep
  have entry : wpAny (model prog w) A.in1 (Builtin.«object.__ne__» ⟨[.ref x, b], []⟩) (fun fin s' => fin = .done (.ret (.bool false)) ∧ Q (.bool false) s') E s := by
    unfold Builtin.«object.__ne__»
    show wpAny _ _ (cRoomFor "comparison" [.ref x, b] >>= _) _ _ s
    refine wpAny_bind (wpAny_cRoomFor (by show A.units + 1 < cLine; omega) ?_)
    refine wpAny_bind (ifBound_K X I heq hf (wpAny_mono h (fun v s' hv => ?_) fun _ _ e => e))
    obtain ⟨rfl, hq⟩ := hv
    refine wpAny_bind (wpAny_truthy_bool ?_)
    exact wpAny_pure ⟨rfl, hq⟩
  have one : wpAny (model prog w) A (tryCompare (.ref x) "__ne__" b) (fun r s' => r = some (.bool false) ∧ Q (.bool false) s') E s := by
    unfold tryCompare
    refine wpAny_bind (ifBoundB X I hne ((PySem.F.slot_tuple_iterator_ne).bind _) (wpAny_call (codeAny_call_builtin (PySem.F.slot_tuple_iterator_ne).plain PySem.F.cmpEntry_ne
      (check_slot PySem.F.cmpKind_ne PySem.F.cmpSplit_ne (I.type.andThen (looks_subIn X hob)) (PySem.F.cmpArgs_ne _ _) (wpAny_mono entry (fun fin s' hv => ?_) fun _ _ e => e)))))
    obtain ⟨rfl, hq⟩ := hv
    exact wpAny_pure ⟨rfl, hq⟩
  unfold richCompare
  simp only [oneThing_ref]
  refine wpAny_holding (wpAny_bind (wpAny_cRoomFor (by omega) ?_))
  refine wpAny_bind (I.type.here (wpAny_bind (hb.here ?_)))
  split
  · rename_i q
    have e : subIn K tb (.ref C) = some false := by
      rcases Bool.or_eq_true_iff.mp hn with e | e
      · rw [beq_iff_eq.mp e] at q; simp at q
      · exact beq_iff_eq.mp e
    refine wpAny_bind ((looks_subIn X e).here ?_)
    simp only [Bool.false_eq_true, if_false]
    refine wpAny_bind (wpAny_mono one (fun r s' z => ?_) fun _ _ e => e)
    obtain ⟨rfl, hq⟩ := z
    exact wpAny_pure hq
  · refine wpAny_bind (wpAny_pure ?_)
    simp only [Bool.false_eq_true, if_false]
    refine wpAny_bind (wpAny_mono one (fun r s' z => ?_) fun _ _ e => e)
    obtain ⟨rfl, hq⟩ := z
    exact wpAny_pure hq
end
section
variable {X : Cx}
def rNeI (C : Addr) (R : Addr → Addr → Hp → Prop) : R2 := fun x y H Q => ∃ a b dx dy fs gs, x = .ref a ∧ y = .ref b ∧ H a = some (.ins C dx fs) ∧ H b = some (.ins C dy gs) ∧ R a b H ∧ ∀ H', Same H H' → Q (.bl false) H'
def spEqs (R : Addr → Addr → Hp → Prop) : Sp := fun vs H Q _ => ∃ a b, vs = [.ref a, .ref b] ∧ R a b H ∧ ∀ H', Same H H' → Q (.bl true) H'
theorem op_neI {CX : CXT} {n : Nat} {C f : Addr} {fd : FuncData} {ps : List Str} {R : Addr → Addr → Hp → Prop} {E : XK} (F : FnOk X.prog X.w X.K X.mg X.base CX n f fd ps (spEqs R)) (hr : Room (n + 1) X.A)
    (hne : findIn X.K (.ref C) "__ne__" = some (some (.builtin "object.__ne__"))) (hob : subIn X.K (.ref C) (.type "object") = some true) (hs : findIn X.K (.ref C) "__eq__" = some (some (.ref f))) (hf : isFn X.K (.ref f) = true)
    (hb : Binds X.K fd ps []) (hx : Passes CX X E) : OpR X (compareOp .NotEq) (rNeI C R) := by
  intro pins s σ H x y u v Q I rx ry d
  obtain ⟨a, b, dx, dy, fs, gs, rfl, rfl, ha, hb', hR, q⟩ := d
  cases rx
  cases ry
  obtain ⟨mA, J, _⟩ := ins_get I.hok ha
  obtain ⟨mB, J', _⟩ := ins_get I.hok hb'
  obtain ⟨od, J, _⟩ := J.look
  obtain ⟨od', J', _⟩ := J'.look
  obtain ⟨m, hF⟩ := I.fr
  have hun := hr.un
  show wpAny (model X.prog X.w) X.A (richCompare .NotEq (.ref a) (.ref b)) (EP X pins σ Q) X.xe s
  refine neOf (tb := .ref C) (by omega) hF I.ok.mod.kin J J'.type (by simp [notFirst]) hne hob hs hf ?_
  have hsp : spEqs R [.ref a, .ref b] H (fun v H' => v = .bl true ∧ Same H H') E := ⟨a, b, rfl, hR, fun H' e => ⟨rfl, e⟩⟩
  have e0 : Env0 X.prog X.w X.K X.mg X.base X.A.in1 X.stack s H := by
    have e := I.env0
    exact ⟨e.frames, e.mod, e.bs, e.bsz, e.funs, e.frf, e.hok, e.bare⟩
  have hl := F.len _ _ _ _ hsp
  have r2 : Vals [V.ref a, V.ref b] [Value.ref a, Value.ref b] := .cons rfl (.cons rfl .nil)
  refine wpAny_call (codeAny_mono (F.run X.A.in1 X.stack s H ⟨[.ref a, .ref b], []⟩ [.ref a, .ref b] [.ref a, .ref b] _ E hr.in1 e0 (by
    have := hb s [.ref a, .ref b] I.kIn (by simpa using hl)
    simpa using this) r2 hsp) fun r s' hq => ?_)
  cases r with
  | error e => exact hx pins σ H s e s' I hq
  | ok fl =>
    cases fl with
    | ret w =>
      obtain ⟨z, H', I', rz, ez, ex⟩ := I.after hq
      subst ez
      cases rz
      exact ⟨rfl, .bl false, H', I', rfl, q H' ex⟩
    | next => exact False.elim hq
    | brk => exact False.elim hq
    | cont => exact False.elim hq
end
end K41
set_option maxHeartbeats 8000000
namespace K41
open PySem PySem.Spec PyProof.Rows L2
section
variable {P : Program} {w : World} {A : Around} {E : Value → Shared → Prop} {s : Shared}
/-- what the set of texts is after i items -/
def UptoW (P : Program) (w : World) (h : Heap) (S : Addr) (xs : List Str) (i : Nat) : Prop := h.SetOf (strKind P w) S (fun k => decide (k ∈ xs.take i)) i
theorem strs_len : ∀ {us : List Value} {xs : List Str}, StrsAre us xs → us.length = xs.length
  | _, _, .nil => rfl
  | _, _, .cons x t r => by rw [List.length_cons, List.length_cons, strs_len r]
theorem strs_get : ∀ {us : List Value} {xs : List Str}, StrsAre us xs → ∀ (i : Nat) (v : Value), us[i]? = some v → ∃ x t, xs[i]? = some x ∧ v = .str x t
  | _, _, .nil, i, v, h => by simp at h
  | _, _, .cons x t r, 0, v, h => by
    cases h
    exact ⟨x, t, rfl, rfl⟩
  | _, _, .cons x t r, i + 1, v, h => strs_get r i v (by simpa using h)
theorem setOf_moved {h h' : Heap} {a : Addr} {xs : List Str} {i : Nat} (R : UptoW P w h a xs i) (k : ∀ o, h.get? a = some o → h'.get? a = some o) : UptoW P w h' a xs i := by
  obtain ⟨o, es, ep, t, ho, r⟩ := R
  exact ⟨o, es, ep, t, k o ho, r⟩
theorem upd_loopW {I : Addr} {fp wr : List Addr} {n : Nat} {Pv : Nat → Value → Prop} {St : Nat → Shared → Prop} {R : Result → Shared → Prop}
    (W : WalksS P w A.in1 I fp wr (fun a b => b = a) n Pv St) (S : Addr) (hSf : S ∉ fp) (xs : List Str) (hnd : xs.Nodup) (hn : n = xs.length) (hfew : xs.length < 64) (hval : ∀ i v, Pv i v → ∃ x t, xs[i]? = some x ∧ v = .str x t)
    (h0 : Heap) (s0 : Shared) (hS0 : h0.get? S = none) (hw0 : ∀ b ∈ wr, h0.get? b = none)
    (hfin : ∀ s', Near s0 s' → UptoW P w s'.heap S xs n → (∀ b o, h0.get? b = some o → s'.heap.get? b = some o) → R (.ok (.ret .none)) s') :
    ∀ (k i : Nat) (s : Shared), n - i = k → i ≤ n → St i s → Near s0 s → (∀ b o, h0.get? b = some o → s.heap.get? b = some o) → UptoW P w s.heap S xs i → codeAny (model P w) A (.builtin "set.update.loop" ⟨[.ref S, .ref I], []⟩) R s := by
  have hSw : S ∉ wr := fun h => hSf (W.sub _ h)
  intro k
  induction k with
  | zero =>
    intro i s hk' hi hst hne hkp hU
    have hin : i = n := by omega
    subst hin
    refine codeAny_builtin F.entry_set_update_loop ?_
    rw [Around.under_plainId F.plain_set_update_loop _]
    show wpAny _ A.in1 (pyNext (.ref I) >>= _) _ _ s
    refine wpAny_bind (W.done s _ _ hst fun s' hm => ?_)
    show wpAny _ A.in1 (ret Value.none) _ _ s'
    have hkp' : ∀ b o, h0.get? b = some o → s'.heap.get? b = some o := fun b o e => hm.heap b o (fun hb => by rw [hw0 b hb] at e; cases e) (hkp b o e)
    exact wpAny_pure (hfin s' ⟨hm.gens.trans hne.1, hm.drawn.trans hne.2.1, hm.os.trans hne.2.2⟩ (setOf_moved hU fun o e => hm.heap S o hSw e) hkp')
  | succ k ih =>
    intro i s hk' hi hst hne hkp hU
    have hlt : i < n := by omega
    refine codeAny_builtin F.entry_set_update_loop ?_
    rw [Around.under_plainId F.plain_set_update_loop _]
    show wpAny _ A.in1 (pyNext (.ref I) >>= _) _ _ s
    refine wpAny_bind (W.item i s _ _ hlt hst fun v s' hP hst' hm => ?_)
    obtain ⟨x, tx, hp, rfl⟩ := hval i v hP
    have hkp' : ∀ b o, h0.get? b = some o → s'.heap.get? b = some o := fun b o e => hm.heap b o (fun hb => by rw [hw0 b hb] at e; cases e) (hkp b o e)
    have R' : UptoW P w s'.heap S xs i := setOf_moved hU fun o e => hm.heap S o hSw e
    have hno : x ∉ xs.take i := fun hq => by
      obtain ⟨j, hj, ej⟩ := List.mem_iff_getElem.mp hq
      rw [List.length_take] at hj
      rw [List.getElem_take] at ej
      have hi' : i < xs.length := by omega
      have hji : j < xs.length := by omega
      have ep' : xs[i] = x := by
        rw [List.getElem?_eq_getElem hi'] at hp
        exact Option.some.inj hp
      have := (List.getElem_inj hnd (h₀ := hji) (h₁ := hi')).mp (ej.trans ep'.symm)
      omega
    show wpAny _ A.in1 (holding [Value.str x tx] (setAdd S (.str x tx)) >>= _) _ _ s'
    refine wpAny_bind (wpAny_holding ?_)
    unfold setAdd
    refine wpAny_holding ?_
    have hroom : i + 1 < scanBound := Nat.lt_of_lt_of_le (show i + 1 < 65 by omega) (by decide)
    refine wpAny_bind ((strKind P w).pyHash (k := x) (strKind_is _ _ _ _) ?_)
    refine wpAny_setAddHashed_of (knd := strKind P w) (s := { s' with toks := s'.toks + 1 }) (strKind_is _ _ _ _) rfl R' hroom fun h' hsb hS2 => ?_
    have R2 : UptoW P w h' S xs (i + 1) := by
      refine SetOf_congr hS2 (fun k' => ?_) ?_
      · rw [take_snoc hp]
        by_cases h1 : k' ∈ xs.take i <;> by_cases h2 : k' = x <;> simp [h1, h2]
      · rw [if_neg (by simp [hno])]
    have hkp2 : ∀ b o, h0.get? b = some o → h'.get? b = some o := fun b o e => (hsb.2 b (fun z => by rw [z, hS0] at e; cases e)).trans (hkp' b o e)
    refine wpAny_pure ⟨plainId_quiet F.plain_set_update_loop _, ih (i + 1) _ (by omega) hlt (W.frame _ s' _ _ hst' (Nat.le_succ _) fun b hb o e => ?_) ⟨hm.gens.trans hne.1, hm.drawn.trans hne.2.1, hm.os.trans hne.2.2⟩ hkp2 R2⟩
    rw [hsb.2 b (fun h : b = S => hSf (by rw [← h]; exact hb))]
    exact e
/-- set(xs) -/
theorem call_setW {l : Addr} {items : Array Value} (xs : List Str) (hnd : xs.Nodup) {Q : Value → Shared → Prop} (hh : A.handled = none) (hl : s.heap.IsList l items) (hit : StrsAre items.toList xs)
    (hfew : xs.length < 64)
    (h : ∀ (h' : Heap) (tk : Nat), UptoW P w h' s.heap.objs.size xs xs.length → (∀ b o, s.heap.get? b = some o → h'.get? b = some o) → Q (.ref s.heap.objs.size) { s with heap := h', toks := tk }) :
    wpAny (model P w) A (call (.type "set") [.ref l]) Q E s := by
  have hisz : items.size = xs.length := by
    rw [← Array.length_toList]
    exact strs_len hit
  obtain ⟨c, tl, hmro⟩ := F.called_set.mro
  have hmade := F.called_set.made
  have hsub := F.called_set.sub
  refine wpAny_call (codeAny_of_tree ?_)
  show wpAny _ _ (callAny (.type "set") _) _ _ _
  refine wpAny_pure ⟨Code.quiet_builtin _ (by decide +kernel), codeAny_builtin F.entry_type_call ?_⟩
  rw [Around.under_plain (weight_type_call_type "set" [.ref l] []) rfl]
  have h1 := F.called_set.notType
  have h2 := F.called_set.canCreate
  have hct := F.typeCall_set_1 (.ref l)
  repeat (any_goals (first | assumption | wp_step))
  refine codeAny_mono (code_set_led1 (.ref l) (E := E) (Q₁ := fun obj s₁ => obj = .ref s.heap.objs.size ∧ s₁ = { s with heap := s.heap.push ({ cls := .type "set", dict := none, data := .set #[] 0 (.fresh 0 0 (!w.params.followText "set-order")) } : Obj) }) ⟨rfl, rfl⟩) fun r s₁ hr => ?_
  cases r with
  | error e => exact hr
  | ok fl =>
    cases fl with
    | ret obj =>
      obtain ⟨rfl, rfl⟩ := hr
      have hS : (s.heap.push ({ cls := .type "set", dict := none, data := .set #[] 0 (.fresh 0 0 (!w.params.followText "set-order")) } : Obj)).get? s.heap.objs.size = some ({ cls := .type "set", dict := none, data := .set #[] 0 (.fresh 0 0 (!w.params.followText "set-order")) } : Obj) := Heap.get?_push_size _ rfl
      have hT : Shared.TypeIs { s with heap := s.heap.push ({ cls := .type "set", dict := none, data := .set #[] 0 (.fresh 0 0 (!w.params.followText "set-order")) } : Obj) } (.ref s.heap.objs.size) "set" := ⟨_, hS, rfl⟩
      have hli := F.called_set.init.lookup
      have hbi := F.called_set.init.bind (.ref s.heap.objs.size)
      repeat (any_goals (first | assumption | wp_step))
      refine codeAny_mono (codeAny_call_builtin (R := wants (fun r s₂ => r = .none ∧ ∃ h' tk, s₂ = { s with heap := h', toks := tk } ∧ UptoW P w h' s.heap.objs.size xs xs.length ∧
          (∀ b o, s.heap.get? b = some o → h'.get? b = some o)) E) F.called_set.init.plain F.entry_set_init (check_set_init_1 hT ?_)) fun r₂ s₂ hr₂ => ?_
      · obtain ⟨ol, hol, hcl, nl, hdl⟩ := hl
        obtain ⟨ocls, odict, odata, oslots⟩ := ol
        simp only at hcl hdl
        subst hcl hdl
        have hol' : (s.heap.push ({ cls := .type "set", dict := none, data := .set #[] 0 (.fresh 0 0 (!w.params.followText "set-order")) } : Obj)).get? l = some { cls := .type "list", dict := odict, data := .seq items nl, slots := oslots } := Heap.get?_push_of_some _ hol
        have hsls := F.sub_list_set
        have hslf := F.sub_list_frozenset
        have hne : (Value.type "list" == Value.type "dict") = false := by decide
        have hl1 : (s.heap.push ({ cls := .type "set", dict := none, data := .set #[] 0 (.fresh 0 0 (!w.params.followText "set-order")) } : Obj)).IsList l items := ⟨_, hol', rfl, nl, rfl⟩
        unfold Builtin.«set.__init__» noKeywords Builtin.Frozenset.updateFrom
        generalize hPI : pyIter = PI
        wp_walk
        subst hPI
        refine wpAny_pyIter_list hl1 ?_
        refine wpAny_bind (wpAny_runValue ?_)
        have hlS : l < s.heap.objs.size := Heap.lt_size hol
        have hz1 : (s.heap.push ({ cls := .type "set", dict := none, data := .set #[] 0 (.fresh 0 0 (!w.params.followText "set-order")) } : Obj)).objs.size = s.heap.objs.size + 1 := Heap.size_push ..
        have hneI : l ≠ (s.heap.push ({ cls := .type "set", dict := none, data := .set #[] 0 (.fresh 0 0 (!w.params.followText "set-order")) } : Obj)).objs.size := by
          rw [hz1]
          exact Nat.ne_of_lt (Nat.lt_succ_of_lt hlS)
        have hSf : s.heap.objs.size ∉ [(s.heap.push ({ cls := .type "set", dict := none, data := .set #[] 0 (.fresh 0 0 (!w.params.followText "set-order")) } : Obj)).objs.size, l] := by
          rw [hz1]
          simp only [List.mem_cons, List.not_mem_nil, or_false, not_or]
          exact ⟨Nat.ne_of_lt (Nat.lt_succ_self _), Nat.ne_of_gt hlS⟩
        have hval : ∀ (i : Nat) (v : Value), items[i]? = some v → ∃ x t, xs[i]? = some x ∧ v = .str x t := fun i v hv => by
          have q : items.toList[i]? = some v := by rw [Array.getElem?_toList]; exact hv
          exact strs_get hit i v q
        have none_of : ∀ b, s.heap.objs.size ≤ b → s.heap.get? b = none := fun b hb => Heap.get?_none_of_le hb
        refine upd_loopW ((Walks.list (by simp [hh]) _ l hneI items).toS) s.heap.objs.size hSf xs hnd hisz hfew hval s.heap s (none_of _ (Nat.le_refl _)) (fun b hb => none_of b (by
            rw [List.mem_singleton.mp hb, hz1]
            exact Nat.le_succ _)) ?hR (items.size - 0) 0 _ (by omega) (Nat.zero_le _)
          ⟨⟨_, Heap.get?_push_size _ rfl, rfl, rfl⟩, (hl1.push _)⟩ ⟨rfl, rfl, rfl⟩ (fun b o e => Heap.get?_push_of_some _ (Heap.get?_push_of_some _ e)) ?hS0
        case hS0 =>
          have hget : ((s.heap.push ({ cls := .type "set", dict := none, data := .set #[] 0 (.fresh 0 0 (!w.params.followText "set-order")) } : Obj)).push { cls := .type "list_iterator", data := .fields #[.ref l, .int 0 0] }).get? s.heap.objs.size = some ({ cls := .type "set", dict := none, data := .set #[] 0 (.fresh 0 0 (!w.params.followText "set-order")) } : Obj) := Heap.get?_push_of_some _ hS
          exact ⟨_, #[], 0, _, hget, ⟨rfl, rfl, rfl⟩, rfl, (fun e he => by simp at he), (fun k => by simp), (by decide), (by rfl), rfl⟩
        case hR =>
          intro s' hnr hU hkp
          obtain ⟨h', g2, d', tk', os'⟩ := s'
          obtain ⟨e1, e2, e3⟩ := hnr
          simp only at e1 e2 e3
          subst e1 e2 e3
          refine wpAny_pure ?_
          rw [hisz] at hU
          exact wpAny_pure ⟨rfl, h', tk', rfl, hU, hkp⟩
      · cases r₂ with
        | error e => exact hr₂
        | ok fl₂ =>
          cases fl₂ with
          | ret r =>
            obtain ⟨rfl, h', tk, rfl, hU, hk'⟩ := hr₂
            repeat (any_goals (first | assumption | wp_step))
            exact h _ _ hU hk'
          | _ => exact hr₂.elim
    | _ => exact hr.elim
end
section
variable {X : Cx}
/-- len(set(xs)) of unlike texts -/
def tLenSetW (K : PySem.W.Frag) (ta : TE) : TE := fun σ H Q => ta σ H fun x H1 => ∃ (l : Addr) (xs : List Str), x = V.ref l ∧ SqL K H1 l (xs.map V.str) ∧ xs.Nodup ∧ xs.length < 64 ∧ Q (.int xs.length) H1
theorem pe_lenSetW {e : Expr} {ta : TE} {p p2 q pos : Pos} (hc : X.calm = true) (hg : Gl X "len") (hm : X.mg "len" = none) (hg2 : Gl X "set") (hm2 : X.mg "set" = none) (ha : PE X e ta)
    (na : starEach [e] X.env = (false, eval e X.env) :: starEach [] X.env := by rfl) : PE X (.Call (.Name "len" p) [.Call (.Name "set" p2) [e] [] q] [] pos) (tLenSetW X.K ta) := by
  refine ⟨fun pins s σ H Q I h => ?_⟩
  refine Call_ (ld_blt I hg hm PySem.boot_len ?_)
  refine PyProof.Rows.callWith_builtin1 (PyProof.Rows.args_cons ?_ rfl) rfl rfl
  refine Call_ (ld_blt I hg2 hm2 PyProof.Rows.boot_set ?_)
  refine PyProof.Rows.callWith_type1 (PyProof.Rows.args_cons (thn (ha.run pins s σ H _ I h) fun v s1 ⟨x, H1, I1, r1, q1⟩ => PyProof.Rows.args_nil ?_) na) na rfl
  obtain ⟨l, xs, rfl, hq, hnd, h64, q1⟩ := q1
  cases r1
  obtain ⟨its, r, pl, hz⟩ := I1.list hq
  refine call_setW (A := X.A) xs hnd (I1.ok.hd hc) pl.isList (by simpa using strsAre_of r) h64 fun h' tk hU hk => ?_
  refine PyProof.Rows.args_nil ?_
  obtain ⟨o, es, ep, t, ho, hex, hd, hel, hmem, hb, hf, hn⟩ := hU
  have I2 : Inv X pins σ H1 { s1 with heap := h', toks := tk } := I1.kept hk
  refine call_len_set ho hex hd hf (by omega) ⟨.int xs.length, H1, I2.tok _, ⟨_, by rw [hn]⟩, q1⟩
end
end K41
set_option maxHeartbeats 4000000
namespace K41
open PySem PySem.Spec PyProof.Rows L2
/-! ### the text by places -/
def top (i : Nat) : Stmt := PySem.Challenge.pw_oddlamps_k41_whole_classes_layers_and_fa.main.body.getD i (.Pass ⟨0, 0, 0, 0⟩)
/-- the def st stands under its name x -/
structure Top1 (K : PySem.W.Frag) (mg : Str → Option Value) (x : String) (st : Stmt) : Prop where
  ex : ∃ (f : Addr) (fd : FuncData), Fun K (Str.ofString x) (Str.ofString x) st f fd ∧ mg (Str.ofString x) = some (.ref f)
/-- .. and keeps the promise sp -/
structure Def (P : Program) (w : World) (K : PySem.W.Frag) (mg : Str → Option Value) (base : Heap) (x : Str) (k : Nat) (ps : List Str) (sp : Sp) : Prop where
  ex : ∃ (f : Addr) (fd : FuncData), FnOk P w K mg base CX0 k f fd ps sp ∧ mg x = some (.ref f) ∧ PySem.W.keepIn K (.ref f) = true ∧ Binds K fd ps []
section
variable {P : Program} {w : World} {K : PySem.W.Frag} {mg : Str → Option Value} {base : Heap}
abbrev BindsBy (st : Stmt) (x : Str) (ps : List Str) : Prop := ∀ (kV doc pm : Value) (an : Option Addr) (cdv ct : Value) (us : List Value), us.length = ps.length → bindArgs (PySem.W.fnOf x x (defArgs st) (defBody st) (defScope st) .none kV doc pm an cdv ct) ⟨us, []⟩ = pure (ps.zip us)
theorem def_mk {x : String} {st : Stmt} {N ps : List Str} {k : Nat} {sp : Sp} (T : Top1 K mg x st) (S : FnScope N ps (defScope st)) (hb : BindsBy st (Str.ofString x) ps) (len : ∀ vs H Q E, sp vs H Q E → vs.length = ps.length)
    (hbody : ∀ (f : Addr) (cdv : Value) (A : Around) (outer : List Env) (s : Shared) (H : Hp) (vs : List V) (Q : VK) (E : XK), Room k (A.deeper (envOfC (Str.ofString x) (defScope st) s.heap.objs.size f cdv)) → sp vs H Q E →
      ∃ t, PSs (cxOf CX0 P w K mg base N (Str.ofString x) (defScope st) f cdv A outer s H E).nox (defBody st) t ∧ t { nx := fun _ H' => Q .non H', rt := Q } (start N vs) H) : Def P w K mg base (Str.ofString x) (k + 1) ps sp := by
  obtain ⟨f, fd, F, hm⟩ := T.ex
  exact ⟨f, fd, F.ok S len (hbody f), hm, F.kp, F.binds hb⟩
theorem Def.mono {x : Str} {j k : Nat} {ps : List Str} {sp : Sp} (D : Def P w K mg base x j ps sp) (h : j ≤ k) : Def P w K mg base x k ps sp := by
  obtain ⟨f, fd, F, r⟩ := D.ex
  exact ⟨f, fd, F.mono h, r⟩
end
section
variable {X : Cx}
theorem pe_def {x : Str} {k : Nat} {ps : List Str} {sp : Sp} {e : Expr} {es : List Expr} {t : TA} {p pos : Pos} (D : Def X.prog X.w X.K X.mg X.base x k ps sp) (hr : Room k X.A) (ha : PA X (e :: es) t) (hg : Gl X x := by rfl)
    (hdb : (x == ("__debug__" : Str)) = false := by decide) (he : starEach (e :: es) X.env = (false, eval e X.env) :: starEach es X.env := by rfl) (hpl : (backTo pos (starEach es X.env)).any (·.1) = false := by rfl) :
    PE X (.Call (.Name x p) (e :: es) [] pos) (tCall sp [] E0 t) := by
  obtain ⟨f, fd, F, hm, hk, hb⟩ := D.ex
  exact pe_call F hr hg hm hk hb .nil pass0 ha hdb he hpl
end
theorem hu100 {A : Around} {k : Nat} (hr : Room k A) : A.units + 100 < cLine := by have := hr.un; omega
theorem hu65 {A : Around} {k : Nat} (hr : Room k A) : A.units + 65 < cLine := by have := hr.un; omega
theorem hu20 {A : Around} {k : Nat} (hr : Room k A) : A.units + 20 < cLine := by have := hr.un; omega
theorem hu10 {A : Around} {k : Nat} (hr : Room k A) : A.units + 10 < cLine := by have := hr.un; omega

/-! ### the heap without some of its objects -/
def hid (S : List Addr) (H : Hp) : Hp := fun b => if b ∈ S then none else H b
def Live (S : List Addr) (H : Hp) : Prop := ∀ a ∈ S, H a ≠ none
section
variable {S : List Addr} {H H' G : Hp} {a b : Addr} {o u : HO} {K : PySem.W.Frag}
theorem hid_le : Same (hid S H) H := fun b o h => by
  unfold hid at h
  split at h
  · cases h
  · exact h
theorem hid_at (h : H b = some o) (hb : b ∉ S) : hid S H b = some o := by
  unfold hid
  rw [if_neg hb]
  exact h
theorem hid_same (e : Same H H') : Same (hid S H) (hid S H') := fun b o h => by
  unfold hid at h ⊢
  split at h
  · cases h
  · rename_i hb
    rw [if_neg hb]
    exact e b o h
theorem hid_in (h : a ∈ S) : hid S (upd H a o) = hid S H := by
  funext b
  unfold hid
  by_cases hb : b ∈ S
  · rw [if_pos hb, if_pos hb]
  · rw [if_neg hb, if_neg hb, upd_ne (fun e => hb (by rw [e]; exact h))]
theorem hid_new (hS : Live S H) (h : H a = none) : hid S (upd H a o) = upd (hid S H) a o := by
  have ha : a ∉ S := fun z => hS a z h
  funext b
  unfold hid
  by_cases hb : b ∈ S
  · rw [if_pos hb, upd_ne (fun e => ha (by rw [← e]; exact hb)), if_pos hb]
  · rw [if_neg hb]
    by_cases e : b = a
    · subst e
      rw [upd_same, upd_same]
    · rw [upd_ne e, upd_ne e, if_neg hb]
theorem hid_none (h : H a = none) : hid S H a = none := by
  unfold hid
  split
  · rfl
  · exact h
theorem hid_sub {T : List Addr} (h : ∀ x ∈ S, x ∈ T) : Same (hid T H) (hid S H) := fun b o e => by
  unfold hid at e ⊢
  split at e
  · cases e
  · rename_i hb
    rw [if_neg (fun z => hb (h b z))]
    exact e
theorem Live.same (l : Live S H) (e : Same H H') : Live S H' := fun a ha h => by
  cases q : H a with
  | none => exact l a ha q
  | some o =>
    rw [e a o q] at h
    cases h
theorem Live.cons (l : Live S H) (h : H a = some o) : Live (a :: S) H := fun x hx => by
  rcases List.mem_cons.mp hx with rfl | hx
  · rw [h]
    exact fun z => nomatch z
  · exact l x hx
theorem Live.nil : Live [] H := fun a h => absurd h (by simp)
theorem Live.upd (l : Live S H) : Live S (upd H a o) := fun x hx => by
  by_cases e : x = a
  · subst e
    rw [upd_same]
    exact fun z => nomatch z
  · rw [upd_ne e]
    exact l x hx
theorem Live.ni (l : Live S H) (h : H a = none) : a ∉ S := fun z => l a z h
theorem same_new (h : H a = none) : Same H (upd H a o) := fun b u e => by
  rw [upd_ne (ne_of_none e h)]
  exact e
theorem Same.put (e : Same G H) (h : G a = none) : Same G (upd H a o) := fun b u q => by
  rw [upd_ne (ne_of_none q h)]
  exact e b u q
theorem Same.tup {xs : List V} (e : Same H H') (h : SqT K H a xs) : SqT K H' a xs := by
  rcases h with (h | ⟨o, h⟩) | h
  · exact .inl (.inl (e _ _ h))
  · exact .inl (.inr ⟨o, e _ _ h⟩)
  · exact .inr h
theorem Same.rd (e : Same H H') (h : Rd H a u) : Rd H' a u := by
  rcases h with h | ⟨o, h⟩
  · exact .inl (e _ _ h)
  · exact .inr ⟨o, e _ _ h⟩
end
/-- all but p stays -/
def But (p : Addr) (H H' : Hp) : Prop := ∀ b o, b ≠ p → H b = some o → H' b = some o
section
variable {p : Addr} {S : List Addr} {H H' H2 : Hp}
theorem But.refl : But p H H := fun _ _ _ h => h
theorem But.trans (a : But p H H') (b : But p H' H2) : But p H H2 := fun c o h e => b c o h (a c o h e)
theorem Same.but (e : Same H H') : But p H H' := fun b o _ h => e b o h
theorem But.hid (e : But p H H') (h : p ∈ S) : Same (hid S H) (hid S H') := fun b o q => by
  unfold K41.hid at q ⊢
  split at q
  · cases q
  · rename_i hb
    rw [if_neg hb]
    exact e b o (fun z => hb (by rw [z]; exact h)) q
theorem But.put {a : Addr} {o : HO} (e : But p H H') (h : H a = none) : But p H (upd H' a o) := fun b u hb q => by
  rw [upd_ne (ne_of_none q h)]
  exact e b u hb q
theorem But.own {o : HO} (e : But p H H') : But p H (upd H' p o) := fun b u hb q => by
  rw [upd_ne hb]
  exact e b u hb q
theorem But.live (l : Live S H) (e : But p H H') (h : ∀ o, H p = some o → H' p ≠ none) : Live S H' := fun a ha q => by
  cases r : H a with
  | none => exact l a ha r
  | some o =>
    by_cases hap : a = p
    · subst hap
      exact h o r q
    · rw [e a o hap r] at q
      cases q
end

/-! ### data in the heap -/
theorem Dp.mono {K : PySem.W.Frag} {H H' : Hp} (e : Same H H') {v : V} {d : PyData} (h : Dp K H v d) : Dp K H' v d := by
  refine Dp.rec (motive_1 := fun v d _ => Dp K H' v d) (motive_2 := fun vs ds _ => DpAll K H' vs ds) .non .bl .int .str (fun hs _ ih => .lst (e.seq hs) ih) (fun hs _ ih => .tup (Same.tup e hs) ih) .nil (fun _ _ h1 h2 => .cons h1 h2) h
theorem DpAll.mono {K : PySem.W.Frag} {H H' : Hp} (e : Same H H') : ∀ {vs : List V} {ds : List PyData}, DpAll K H vs ds → DpAll K H' vs ds
  | _, _, .nil => .nil
  | _, _, .cons h t => .cons (Dp.mono e h) (DpAll.mono e t)
theorem DpAll.get {K : PySem.W.Frag} {H : Hp} : ∀ {vs : List V} {ds : List PyData}, DpAll K H vs ds → ∀ {i : Nat} {v : V}, vs[i]? = some v → ∃ d, ds[i]? = some d ∧ Dp K H v d
  | _, _, .nil, i, v, h => by simp at h
  | _, _, .cons h t, 0, v, e => by
    cases e
    exact ⟨_, rfl, h⟩
  | _, _, .cons h t, i + 1, v, e => DpAll.get t (i := i) (by simpa using e)
theorem DpAll.length {K : PySem.W.Frag} {H : Hp} : ∀ {vs : List V} {ds : List PyData}, DpAll K H vs ds → vs.length = ds.length
  | _, _, .nil => rfl
  | _, _, .cons _ t => by rw [List.length_cons, List.length_cons, DpAll.length t]
theorem DpAll.append {K : PySem.W.Frag} {H : Hp} : ∀ {vs vs' : List V} {ds ds' : List PyData}, DpAll K H vs ds → DpAll K H vs' ds' → DpAll K H (vs ++ vs') (ds ++ ds')
  | _, _, _, _, .nil, h => h
  | _, _, _, _, .cons h t, h' => .cons h (DpAll.append t h')
theorem inV_str (x : Str) (xs : List Str) : inV (.str x) (xs.map V.str) = decide (x ∈ xs) := by
  unfold inV
  rw [Bool.eq_iff_iff, List.any_eq_true, decide_eq_true_eq]
  constructor
  · rintro ⟨y, hy, e⟩
    obtain ⟨z, hz, rfl⟩ := List.mem_map.mp hy
    have e' : z = x := eq_of_beq (show (z == x) = true from e)
    rw [← e']
    exact hz
  · intro h
    exact ⟨.str x, List.mem_map.mpr ⟨x, h, rfl⟩, beq_self_eq_true x⟩
theorem flat_strs (xs : List Str) : (xs.map V.str).all flatV = true := by
  rw [List.all_map]
  exact List.all_eq_true.mpr fun _ _ => rfl
theorem inV_int (x : Int) (xs : List Int) : inV (.int x) (xs.map V.int) = decide (x ∈ xs) := by
  unfold inV
  rw [Bool.eq_iff_iff, List.any_eq_true, decide_eq_true_eq]
  constructor
  · rintro ⟨y, hy, e⟩
    obtain ⟨z, hz, rfl⟩ := List.mem_map.mp hy
    have e' : z = x := eq_of_beq (show (z == x) = true from e)
    rw [← e']
    exact hz
  · intro h
    exact ⟨.int x, List.mem_map.mpr ⟨x, h, rfl⟩, beq_self_eq_true x⟩
theorem flat_ints (xs : List Int) : (xs.map V.int).all flatV = true := by
  rw [List.all_map]
  exact List.all_eq_true.mpr fun _ _ => rfl
theorem get_map {α : Type} {f : α → V} {xs : List α} {i : Nat} {v : V} (h : (xs.map f)[i]? = some v) : ∃ x, xs[i]? = some x ∧ v = f x := by
  rw [List.getElem?_map] at h
  obtain ⟨x, hx, e⟩ := Option.map_eq_some_iff.mp h
  exact ⟨x, hx, e.symm⟩

/-! ### a comprehension's list, as it grows -/
def Grow (D : Addr) (J : Nat → List V → Hp → Prop) (i : Nat) (H : Hp) : Prop := ∃ acc, H D = some (.lst acc) ∧ acc.length ≤ i ∧ J i acc H
theorem Grow.start {D : Addr} {J : Nat → List V → Hp → Prop} {H : Hp} (j : J 0 [] (upd H D (.lst []))) : Grow D J 0 (upd H D (.lst [])) := ⟨[], upd_same, Nat.le_refl _, j⟩
theorem Grow.put {D : Addr} {J : Nat → List V → Hp → Prop} {H4 : Hp} {acc : List V} {y : V} {i : Nat} (h : H4 D = some (.lst acc)) (hl : acc.length ≤ i) (hi : i < 100000) (j : J (i + 1) (acc ++ [y]) (upd H4 D (.lst (acc ++ [y])))) :
    ∃ acc, H4 D = some (.lst acc) ∧ acc.length < sizeLine ∧ Grow D J (i + 1) (upd H4 D (.lst (acc ++ [y]))) :=
  ⟨acc, h, by rw [sizeLine_eq]; omega, acc ++ [y], upd_same, by rw [List.length_append, List.length_singleton]; omega, j⟩
theorem Grow.pass {D : Addr} {J : Nat → List V → Hp → Prop} {H3 : Hp} {acc : List V} {i : Nat} (h : H3 D = some (.lst acc)) (hl : acc.length ≤ i) (j : J (i + 1) acc H3) : Grow D J (i + 1) H3 := ⟨acc, h, Nat.le_succ_of_le hl, j⟩
end K41
namespace K41
open PySem PySem.Spec PyProof.Rows L2
/-! ### all but T stays -/
def Kp (T : List Addr) (H H' : Hp) : Prop := ∀ b o, H b = some o → H' b ≠ none ∧ (b ∉ T → H' b = some o)
section
variable {S T U : List Addr} {H H' H2 : Hp} {a b p : Addr} {o : HO} {K : PySem.W.Frag}
theorem Kp.refl : Kp T H H := fun b o h => ⟨by rw [h]; exact fun z => (nomatch z), fun _ => h⟩
theorem Kp.trans (x : Kp T H H') (y : Kp T H' H2) : Kp T H H2 := fun b o h => by
  obtain ⟨h1, h2⟩ := x b o h
  cases e : H' b with
  | none => exact absurd e h1
  | some u =>
    obtain ⟨g1, g2⟩ := y b u e
    refine ⟨g1, fun hb => ?_⟩
    rw [h2 hb] at e
    cases e
    exact g2 hb
theorem Kp.mono (x : Kp T H H') (h : ∀ a ∈ T, a ∈ U) : Kp U H H' := fun b o e => ⟨(x b o e).1, fun hb => (x b o e).2 fun z => hb (h b z)⟩
theorem Kp.nil (x : Kp [] H H') : Kp T H H' := x.mono fun a h => absurd h (by simp)
theorem Kp.cons (x : Kp T H H') : Kp (a :: T) H H' := x.mono fun b h => List.mem_cons_of_mem _ h
theorem kp_same (e : Same H H') : Kp T H H' := fun b o h => ⟨by rw [e b o h]; exact fun z => (nomatch z), fun _ => e b o h⟩
theorem Kp.same (x : Kp [] H H') : Same H H' := fun b o h => (x b o h).2 (by simp)
theorem kp_new (h : H p = none) : Kp T H (upd H p o) := kp_same (same_new h)
theorem Kp.put (x : Kp T H H') (h : H p = none) : Kp T H (upd H' p o) := fun b u e => by
  have hb := ne_of_none e h
  rw [upd_ne hb]
  exact x b u e
theorem Kp.new (x : Kp T H H') (h : H' p = none) : Kp T H (upd H' p o) := x.trans (kp_new h)
theorem kp_own (h : p ∈ T) : Kp T H (upd H p o) := fun b u e => by
  by_cases hb : b = p
  · subst hb
    exact ⟨by rw [upd_same]; exact fun z => (nomatch z), fun z => absurd h z⟩
  · rw [upd_ne hb, e]
    exact ⟨fun z => (nomatch z), fun _ => rfl⟩
theorem Kp.own (x : Kp T H H') (h : p ∈ T) : Kp T H (upd H' p o) := x.trans (kp_own h)
theorem Kp.at (x : Kp T H H') (hb : b ∉ T) (h : H b = some o) : H' b = some o := (x b o h).2 hb
theorem Kp.free (x : Kp T H H') (h : H' p = none) : H p = none := by
  cases e : H p with
  | none => rfl
  | some u => exact absurd h (x p u e).1
theorem Kp.live (x : Kp T H H') (l : Live S H) : Live S H' := fun a ha q => by
  cases e : H a with
  | none => exact l a ha e
  | some u => exact (x a u e).1 q
theorem Kp.hid (x : Kp T H H') (h : ∀ a ∈ T, a ∈ S) : Same (hid S H) (hid S H') := fun b o q => by
  unfold K41.hid at q ⊢
  split at q
  · cases q
  · rename_i hb
    rw [if_neg hb]
    exact (x b o q).2 fun z => hb (h b z)
theorem Kp.hid0 (x : Kp [] H H') : Same (K41.hid S H) (K41.hid S H') := x.hid fun a h => absurd h (by simp)
theorem hid_cons (h : H a = none) : K41.hid (a :: S) H = K41.hid S H := by
  funext b
  unfold K41.hid
  by_cases e : b = a
  · subst e
    rw [if_pos (List.mem_cons_self ..)]
    split
    · rfl
    · exact h.symm
  · by_cases hb : b ∈ S
    · rw [if_pos hb, if_pos (List.mem_cons_of_mem _ hb)]
    · rw [if_neg hb, if_neg (fun z => (List.mem_cons.mp z).elim e hb)]
theorem hid_nil : K41.hid [] H = H := by
  funext b
  unfold K41.hid
  rw [if_neg (by simp)]
theorem hid_tail : Same (K41.hid (a :: S) H) (K41.hid S H) := hid_sub fun x h => List.mem_cons_of_mem _ h
theorem not_mem_of (l : Live S H) (h : H a = none) : a ∉ S := fun z => l a z h
end
/-! ### data -/
section
variable {K : PySem.W.Frag} {H H' : Hp} {v : V} {vs : List V} {a : Addr}
def eW (ws : List Str) : PyData := .list (ws.map .str)
def eZ (zs : List Int) : PyData := .list (zs.map .int)
def eT2 (t : Str × Str) : PyData := .tuple [.str t.1, .str t.2]
def eT (ts : List (Str × Str)) : PyData := .list (ts.map eT2)
def eP2 (t : Int × Int) : PyData := .tuple [.int t.1, .int t.2]
def eP (ts : List (Int × Int)) : PyData := .list (ts.map eP2)
theorem dp_list {ds : List PyData} (h : Dp K H v (.list ds)) : ∃ a xs, v = .ref a ∧ SqL K H a xs ∧ DpAll K H xs ds := by
  cases h with
  | lst h1 h2 => exact ⟨_, _, rfl, h1, h2⟩
theorem dp_tuple {ds : List PyData} (h : Dp K H v (.tuple ds)) : ∃ a xs, v = .ref a ∧ SqT K H a xs ∧ DpAll K H xs ds := by
  cases h with
  | tup h1 h2 => exact ⟨_, _, rfl, h1, h2⟩
theorem dp_str {x : Str} (h : Dp K H v (.str x)) : v = .str x := by cases h; rfl
theorem dp_int {x : Int} (h : Dp K H v (.int x)) : v = .int x := by cases h; rfl
theorem dp_bl {x : Bool} (h : Dp K H v (.bool x)) : v = .bl x := by cases h; rfl
theorem dp_non (h : Dp K H v .none) : v = .non := by cases h; rfl
theorem da_nil (h : DpAll K H vs []) : vs = [] := by cases h; rfl
theorem da_cons {d : PyData} {ds : List PyData} (h : DpAll K H vs (d :: ds)) : ∃ v ws, vs = v :: ws ∧ Dp K H v d ∧ DpAll K H ws ds := by
  cases h with
  | cons h1 h2 => exact ⟨_, _, rfl, h1, h2⟩
theorem da1 {d : PyData} (h : DpAll K H vs [d]) : ∃ v, vs = [v] ∧ Dp K H v d := by
  obtain ⟨v, ws, rfl, h1, h2⟩ := da_cons h
  rw [da_nil h2]
  exact ⟨v, rfl, h1⟩
theorem da2 {d e : PyData} (h : DpAll K H vs [d, e]) : ∃ v u, vs = [v, u] ∧ Dp K H v d ∧ Dp K H u e := by
  obtain ⟨v, ws, rfl, h1, h2⟩ := da_cons h
  obtain ⟨u, rfl, h3⟩ := da1 h2
  exact ⟨v, u, rfl, h1, h3⟩
theorem da3 {d e f : PyData} (h : DpAll K H vs [d, e, f]) : ∃ v u w, vs = [v, u, w] ∧ Dp K H v d ∧ Dp K H u e ∧ Dp K H w f := by
  obtain ⟨v, ws, rfl, h1, h2⟩ := da_cons h
  obtain ⟨u, w, rfl, h3, h4⟩ := da2 h2
  exact ⟨v, u, w, rfl, h1, h3, h4⟩
theorem da_strs : ∀ {ws : List Str} {vs : List V}, DpAll K H vs (ws.map .str) → vs = ws.map V.str
  | [], vs, h => by rw [da_nil h]; rfl
  | w :: ws, vs, h => by
    obtain ⟨v, us, rfl, h1, h2⟩ := da_cons h
    rw [dp_str h1, da_strs h2]
    rfl
theorem da_ints : ∀ {ws : List Int} {vs : List V}, DpAll K H vs (ws.map .int) → vs = ws.map V.int
  | [], vs, h => by rw [da_nil h]; rfl
  | w :: ws, vs, h => by
    obtain ⟨v, us, rfl, h1, h2⟩ := da_cons h
    rw [dp_int h1, da_ints h2]
    rfl
theorem strs_da : ∀ {ws : List Str}, DpAll K H (ws.map V.str) (ws.map .str)
  | [] => .nil
  | w :: ws => .cons (.str w) strs_da
theorem ints_da : ∀ {ws : List Int}, DpAll K H (ws.map V.int) (ws.map .int)
  | [] => .nil
  | w :: ws => .cons (.int w) ints_da
theorem dp_words {ws : List Str} (h : Dp K H v (eW ws)) : ∃ a, v = .ref a ∧ SqL K H a (ws.map V.str) := by
  obtain ⟨a, xs, rfl, h1, h2⟩ := dp_list h
  rw [da_strs h2] at h1
  exact ⟨a, rfl, h1⟩
theorem dp_ints {ws : List Int} (h : Dp K H v (eZ ws)) : ∃ a, v = .ref a ∧ SqL K H a (ws.map V.int) := by
  obtain ⟨a, xs, rfl, h1, h2⟩ := dp_list h
  rw [da_ints h2] at h1
  exact ⟨a, rfl, h1⟩
theorem words_dp {ws : List Str} (h : SqL K H a (ws.map V.str)) : Dp K H (.ref a) (eW ws) := .lst h strs_da
theorem wtup_dp {ws : List Str} (h : SqT K H a (ws.map V.str)) : Dp K H (.ref a) (.tuple (ws.map .str)) := .tup h strs_da
theorem ints_dp {ws : List Int} (h : SqL K H a (ws.map V.int)) : Dp K H (.ref a) (eZ ws) := .lst h ints_da
theorem dp_tie {t : Str × Str} (h : Dp K H v (eT2 t)) : ∃ a, v = .ref a ∧ SqT K H a [.str t.1, .str t.2] := by
  obtain ⟨a, xs, rfl, h1, h2⟩ := dp_tuple h
  obtain ⟨x, y, rfl, e1, e2⟩ := da2 h2
  rw [dp_str e1, dp_str e2] at h1
  exact ⟨a, rfl, h1⟩
theorem dp_pair {t : Int × Int} (h : Dp K H v (eP2 t)) : ∃ a, v = .ref a ∧ SqT K H a [.int t.1, .int t.2] := by
  obtain ⟨a, xs, rfl, h1, h2⟩ := dp_tuple h
  obtain ⟨x, y, rfl, e1, e2⟩ := da2 h2
  rw [dp_int e1, dp_int e2] at h1
  exact ⟨a, rfl, h1⟩
theorem tie_dp {t : Str × Str} (h : SqT K H a [.str t.1, .str t.2]) : Dp K H (.ref a) (eT2 t) := .tup h (.cons (.str _) (.cons (.str _) .nil))
theorem pair_dp {t : Int × Int} (h : SqT K H a [.int t.1, .int t.2]) : Dp K H (.ref a) (eP2 t) := .tup h (.cons (.int _) (.cons (.int _) .nil))
theorem da_len {α : Type} {f : α → PyData} {xs : List α} (h : DpAll K H vs (xs.map f)) : vs.length = xs.length := by rw [DpAll.length h, List.length_map]
theorem da_at {α : Type} {f : α → PyData} {xs : List α} (h : DpAll K H vs (xs.map f)) {i : Nat} {v : V} (hi : vs[i]? = some v) : ∃ x, xs[i]? = some x ∧ Dp K H v (f x) := by
  obtain ⟨d, e, q⟩ := DpAll.get h hi
  rw [List.getElem?_map] at e
  obtain ⟨x, hx, rfl⟩ := Option.map_eq_some_iff.mp e
  exact ⟨x, hx, q⟩
theorem da_get {α : Type} {f : α → PyData} {xs : List α} (h : DpAll K H vs (xs.map f)) {i : Nat} {x : α} (hi : xs[i]? = some x) : ∃ v, vs[i]? = some v ∧ Dp K H v (f x) := by
  have hl : i < vs.length := by rw [da_len h]; exact (List.getElem?_eq_some_iff.mp hi).1
  obtain ⟨y, hy, q⟩ := da_at h (List.getElem?_eq_getElem hl)
  rw [hi] at hy
  cases hy
  exact ⟨_, List.getElem?_eq_getElem hl, q⟩
/-- the built-in type of data -/
def tyN : PyData → String
  | .none => "NoneType"
  | .bool _ => "bool"
  | .int _ => "int"
  | .str _ => "str"
  | .list _ => "list"
  | .tuple _ => "tuple"
  | _ => "?"
theorem tyx_list {xs : List V} (h : SqL K H a xs) : TyX K H (.ref a) (.type "list") := by
  rcases h with (h | ⟨o, h⟩) | ⟨o, its, n, h, c, _⟩
  · exact .base (.lst h)
  · exact .base (.frz h)
  · exact .kList h c
theorem tyx_tup {xs : List V} (h : SqT K H a xs) : TyX K H (.ref a) (.type "tuple") := by
  rcases h with (h | ⟨o, h⟩) | ⟨o, its, n, h, c, _⟩
  · exact .base (.tup h)
  · exact .fTuple h
  · exact .kTuple h c
theorem tyx {d : PyData} (h : Dp K H v d) : TyX K H v (.type (tyN d)) := by
  cases h with
  | non => exact .base .non
  | bl b => exact .base (.bl b)
  | int i => exact .base (.int i)
  | str x => exact .base (.str x)
  | lst h1 _ => exact tyx_list h1
  | tup h1 _ => exact tyx_tup h1
end
/-! ### specs -/
/-- data in, data out, nothing changed -/
def spR (K : PySem.W.Frag) (R : List PyData → PyData → Prop) : Sp := fun vs H Q _ => ∃ S ds d, Live S H ∧ DpAll K (hid S H) vs ds ∧ R ds d ∧ ∀ v H', Kp [] H H' → Dp K (hid S H') v d → Q v H'
/-- the purse at p, of which m draws were taken -/
def Purse (H : Hp) (p : Addr) (m : Nat) : Prop := ∃ a b c : Int, H p = some (.lst [.int a, .int b, .int c, .int 0]) ∧ 0 ≤ a ∧ 0 ≤ b ∧ b < 2147483629 ∧ 0 ≤ c ∧ c ≤ (m : Int)
/-- a purse and data in, data out, but the purse nothing changed, at most k draws -/
def spP (K : PySem.W.Frag) (k : Nat) (D : List PyData → Prop) (R : List PyData → PyData → Prop) : Sp := fun vs H Q _ => ∃ S p m rest ds, vs = .ref p :: rest ∧ Live S H ∧ p ∈ S ∧ Purse H p m ∧ m + k ≤ 1000000000 ∧ DpAll K (hid S H) rest ds ∧ D ds ∧
  ∀ v H' d, Kp [p] H H' → Purse H' p (m + k) → R ds d → Dp K (hid S H') v d → Q v H'
theorem Purse.mono {H : Hp} {p : Addr} {m n : Nat} (h : Purse H p m) (hn : m ≤ n) : Purse H p n := by
  obtain ⟨a, b, c, h1, h2, h3, h4, h5, h6⟩ := h
  exact ⟨a, b, c, h1, h2, h3, h4, h5, by omega⟩
theorem Purse.ne {H : Hp} {p q : Addr} {m : Nat} (h : Purse H p m) (hq : H q = none) : p ≠ q := by
  obtain ⟨a, b, c, h1, _⟩ := h
  exact ne_of_none h1 hq
theorem Purse.upd {H : Hp} {p q : Addr} {m : Nat} {o : HO} (h : Purse H p m) (hq : p ≠ q) : Purse (upd H q o) p m := by
  obtain ⟨a, b, c, h1, r⟩ := h
  exact ⟨a, b, c, by rw [upd_ne hq]; exact h1, r⟩
theorem Purse.kp {H H' : Hp} {p : Addr} {m : Nat} {T : List Addr} (h : Purse H p m) (e : Kp T H H') (hq : p ∉ T) : Purse H' p m := by
  obtain ⟨a, b, c, h1, r⟩ := h
  exact ⟨a, b, c, (e p _ h1).2 hq, r⟩

/-! ### a comprehension that makes data -/
section
variable {J : It} {n : Nat} {G : Hp → Prop} {Y : Nat → Hp → V → Hp → Prop} {K : PySem.W.Frag}
theorem lcR (w : Walk J n G Y) {g : TG} {tt : TT} {te : TE} {vs : List Nat} {σ : L2.St} {H1 : Hp} {D : Addr} {Qd : Hp → Prop} {S T : List Addr} (Z : Nat → Hp → Prop) (R : Nat → List PyData → Prop)
    (hD : H1 D = none) (hT : ∀ b ∈ T, b ∈ S) (hS : Live S H1) (hn : n ≤ 100000) (hG : ∀ H, Kp T H1 H → G H) (h0 : R 0 []) (hZ0 : Z 0 H1) (hZ : ∀ i H o, Z i H → Z i (upd H D o))
    (hs : ∀ i x H H' ds (Yes : VK) (No : Hp → Prop), i < n → Kp T H1 H → Live (D :: S) H → Z i H → R i ds → Y i H x H' → (∀ y H4 d, Kp T H H4 → Z (i + 1) H4 → Dp K (hid (D :: S) H4) y d → R (i + 1) (ds ++ [d]) → Yes y H4) → (∀ H3, Kp T H H3 → Z (i + 1) H3 → R (i + 1) ds → No H3) →
      g x (wipe σ vs) H' fun σ2 H2 => wipe σ2 vs = wipe σ vs ∧ tt σ2 H2 fun b H3 => if b = true then te σ2 H3 Yes else No H3)
    (hd : ∀ H ys ds, Kp T H1 H → Live S H → Z n H → R n ds → H D = some (.lst ys) → ys.length ≤ n → DpAll K (hid (D :: S) H) ys ds → Dp K (hid S H) (.ref D) (.list ds) → Qd H) :
    ∃ W : Nat → Nat → Hp → Prop, (∃ m, W 0 m (upd H1 D (.lst []))) ∧ ∀ i m H, W i m H →
      (J.stop i H ∧ Qd H) ∨ (J.go i H ∧ ∃ Nx : Hp → Prop, (∀ H', Nx H' → ∃ m', m' < m ∧ W (i + 1) m' H') ∧ ∀ x H', J.yld i H x H' → g x (wipe σ vs) H' fun σ2 H2 => wipe σ2 vs = wipe σ vs ∧ tt σ2 H2 fun b H3 =>
        if b = true then te σ2 H3 fun y H4 => ∃ acc, H4 D = some (.lst acc) ∧ acc.length < sizeLine ∧ Nx (upd H4 D (.lst (acc ++ [y]))) else Nx H3) := by
  have hDS : D ∉ S := not_mem_of hS hD
  have hDT : D ∉ T := fun z => hDS (hT D z)
  refine lc_it w (fun i H => ∃ acc ds, Kp T H1 H ∧ Z i H ∧ R i ds ∧ H D = some (.lst acc) ∧ acc.length ≤ i ∧ DpAll K (hid (D :: S) H) acc ds) ⟨[], [], kp_new hD, hZ _ _ _ hZ0, h0, upd_same, Nat.le_refl _, .nil⟩ (fun i H _ ⟨_, _, k, _⟩ => hG H k) ?_ ?_
  · rintro i x H H' hi ⟨acc, ds, k, z, r, hl, hle, da⟩ y
    have hL : Live (D :: S) H := (k.live hS).cons hl
    refine hs i x H H' ds _ _ hi k hL z r y (fun y H4 d k2 z2 hd2 r2 => ?_) (fun H3 k2 z2 r2 => ?_)
    · have e : H4 D = some (.lst acc) := k2.at hDT hl
      have da4 : DpAll K (hid (D :: S) H4) acc ds := DpAll.mono (k2.hid fun b hb => List.mem_cons_of_mem _ (hT b hb)) da
      refine ⟨acc, e, by rw [sizeLine_eq]; omega, acc ++ [y], ds ++ [d], (k.trans k2).put hD, hZ _ _ _ z2, r2, upd_same, by rw [List.length_append, List.length_singleton]; omega, ?_⟩
      rw [hid_in (List.mem_cons_self ..)]
      exact DpAll.append da4 (.cons hd2 .nil)
    · exact ⟨acc, ds, k.trans k2, z2, r2, k2.at hDT hl, Nat.le_succ_of_le hle, DpAll.mono (k2.hid fun b hb => List.mem_cons_of_mem _ (hT b hb)) da⟩
  · rintro H ⟨acc, ds, k, z, r, hl, hle, da⟩
    exact hd H acc ds k (k.live hS) z r hl hle da (.lst (.inl (.inl (hid_at hl hDS))) (DpAll.mono hid_tail da))
/-- each item is tested by q, and gives f -/
theorem lcF {α : Type} {items : List α} (w : Walk J items.length G Y) {g : TG} {tt : TT} {te : TE} {vs : List Nat} {σ : L2.St} {H1 : Hp} {D : Addr} {Qd : Hp → Prop} {S T : List Addr} (Z : Nat → Hp → Prop) (q : α → Bool) (f : α → PyData)
    (hD : H1 D = none) (hT : ∀ b ∈ T, b ∈ S) (hS : Live S H1) (hn : items.length ≤ 100000) (hG : ∀ H, Kp T H1 H → G H) (hZ0 : Z 0 H1) (hZ : ∀ i H o, Z i H → Z i (upd H D o))
    (hs : ∀ i a x H H' (Yes : VK) (No : Hp → Prop), items[i]? = some a → Kp T H1 H → Live (D :: S) H → Z i H → Y i H x H' → (∀ y H4, Kp T H H4 → Z (i + 1) H4 → q a = true → Dp K (hid (D :: S) H4) y (f a) → Yes y H4) → (∀ H3, Kp T H H3 → Z (i + 1) H3 → q a = false → No H3) →
      g x (wipe σ vs) H' fun σ2 H2 => wipe σ2 vs = wipe σ vs ∧ tt σ2 H2 fun b H3 => if b = true then te σ2 H3 Yes else No H3)
    (hd : ∀ H ys, Kp T H1 H → Live S H → Z items.length H → H D = some (.lst ys) → ys.length ≤ items.length → DpAll K (hid (D :: S) H) ys ((items.filter q).map f) → Dp K (hid S H) (.ref D) (.list ((items.filter q).map f)) → Qd H) :
    ∃ W : Nat → Nat → Hp → Prop, (∃ m, W 0 m (upd H1 D (.lst []))) ∧ ∀ i m H, W i m H →
      (J.stop i H ∧ Qd H) ∨ (J.go i H ∧ ∃ Nx : Hp → Prop, (∀ H', Nx H' → ∃ m', m' < m ∧ W (i + 1) m' H') ∧ ∀ x H', J.yld i H x H' → g x (wipe σ vs) H' fun σ2 H2 => wipe σ2 vs = wipe σ vs ∧ tt σ2 H2 fun b H3 =>
        if b = true then te σ2 H3 fun y H4 => ∃ acc, H4 D = some (.lst acc) ∧ acc.length < sizeLine ∧ Nx (upd H4 D (.lst (acc ++ [y]))) else Nx H3) := by
  refine lcR (K := K) w Z (fun i ds => ds = ((items.take i).filter q).map f) hD hT hS hn hG rfl hZ0 hZ ?_ ?_
  · rintro i x H H' ds Yes No hi k hL z rfl y yes no
    have hg : items[i]? = some items[i] := List.getElem?_eq_getElem hi
    refine hs i items[i] x H H' Yes No hg k hL z y (fun y H4 k2 z2 hq hd2 => yes y H4 _ k2 z2 hd2 ?_) (fun H3 k2 z2 hq => no H3 k2 z2 ?_)
    · rw [List.take_succ, hg, Option.toList, List.filter_append, List.map_append, List.filter_cons, if_pos hq]
      rfl
    · rw [List.take_succ, hg, Option.toList, List.filter_append, List.map_append, List.filter_cons, if_neg (by rw [hq]; decide)]
      simp
  · rintro H ys ds k hL z rfl hl hle da dp
    rw [List.take_length] at da dp
    exact hd H ys k hL z hl hle da dp
end
end K41
namespace K41
open PySem PySem.Spec PyProof.Rows L2
/-! ### the defs' texts, their names -/
abbrev s_is_spelt : Stmt := top 9
theorem sc_is_spelt : FnScope ["value", "letter"] ["value"] (defScope s_is_spelt) := ⟨rfl, rfl, rfl, by decide +kernel, rfl, by decide +kernel, by decide +kernel⟩
theorem bb_is_spelt : BindsBy s_is_spelt (Str.ofString "is_spelt") ["value"] := fun _ _ _ _ _ _ us hl => match us, hl with | [_], _ => rfl
abbrev s_are_spelt : Stmt := top 10
theorem sc_are_spelt : FnScope ["value", "word"] ["value"] (defScope s_are_spelt) := ⟨rfl, rfl, rfl, by decide +kernel, rfl, by decide +kernel, by decide +kernel⟩
theorem bb_are_spelt : BindsBy s_are_spelt (Str.ofString "are_spelt") ["value"] := fun _ _ _ _ _ _ us hl => match us, hl with | [_], _ => rfl
abbrev s_is_rising : Stmt := top 11
theorem sc_is_rising : FnScope ["things", "at"] ["things"] (defScope s_is_rising) := ⟨rfl, rfl, rfl, by decide +kernel, rfl, by decide +kernel, by decide +kernel⟩
theorem bb_is_rising : BindsBy s_is_rising (Str.ofString "is_rising") ["things"] := fun _ _ _ _ _ _ us hl => match us, hl with | [_], _ => rfl
abbrev s_are_rising_words : Stmt := top 12
theorem sc_are_rising_words : FnScope ["value"] ["value"] (defScope s_are_rising_words) := ⟨rfl, rfl, rfl, by decide +kernel, rfl, by decide +kernel, by decide +kernel⟩
theorem bb_are_rising_words : BindsBy s_are_rising_words (Str.ofString "are_rising_words") ["value"] := fun _ _ _ _ _ _ us hl => match us, hl with | [_], _ => rfl
abbrev s_are_unlike_words : Stmt := top 13
theorem sc_are_unlike_words : FnScope ["value"] ["value"] (defScope s_are_unlike_words) := ⟨rfl, rfl, rfl, by decide +kernel, rfl, by decide +kernel, by decide +kernel⟩
theorem bb_are_unlike_words : BindsBy s_are_unlike_words (Str.ofString "are_unlike_words") ["value"] := fun _ _ _ _ _ _ us hl => match us, hl with | [_], _ => rfl
abbrev s_net_init : Stmt := inClass (top 16) 0
theorem sc_net_init : FnScope ["self", "lamps", "ties", "wishes", "lamp"] ["self", "lamps", "ties", "wishes"] (defScope s_net_init) := ⟨rfl, rfl, rfl, by decide +kernel, rfl, by decide +kernel, by decide +kernel⟩
abbrev s_net_eq : Stmt := inClass (top 16) 4
theorem sc_net_eq : FnScope ["self", "other"] ["self", "other"] (defScope s_net_eq) := ⟨rfl, rfl, rfl, by decide +kernel, rfl, by decide +kernel, by decide +kernel⟩
abbrev s_is_tie : Stmt := top 17
theorem sc_is_tie : FnScope ["lamps", "value", "lamp"] ["lamps", "value"] (defScope s_is_tie) := ⟨rfl, rfl, rfl, by decide +kernel, rfl, by decide +kernel, by decide +kernel⟩
theorem bb_is_tie : BindsBy s_is_tie (Str.ofString "is_tie") ["lamps", "value"] := fun _ _ _ _ _ _ us hl => match us, hl with | [_, _], _ => rfl
abbrev s_are_ties : Stmt := top 18
theorem sc_are_ties : FnScope ["lamps", "value", "tie"] ["lamps", "value"] (defScope s_are_ties) := ⟨rfl, rfl, rfl, by decide +kernel, rfl, by decide +kernel, by decide +kernel⟩
theorem bb_are_ties : BindsBy s_are_ties (Str.ofString "are_ties") ["lamps", "value"] := fun _ _ _ _ _ _ us hl => match us, hl with | [_, _], _ => rfl
abbrev s_are_wishes : Stmt := top 19
theorem sc_are_wishes : FnScope ["lamps", "value", "lamp"] ["lamps", "value"] (defScope s_are_wishes) := ⟨rfl, rfl, rfl, by decide +kernel, rfl, by decide +kernel, by decide +kernel⟩
theorem bb_are_wishes : BindsBy s_are_wishes (Str.ofString "are_wishes") ["lamps", "value"] := fun _ _ _ _ _ _ us hl => match us, hl with | [_, _], _ => rfl
abbrev s_near_by : Stmt := top 20
theorem sc_near_by : FnScope ["lamps", "ties", "found", "one", "other", "lamp"] ["lamps", "ties"] (defScope s_near_by) := ⟨rfl, rfl, rfl, by decide +kernel, rfl, by decide +kernel, by decide +kernel⟩
theorem bb_near_by : BindsBy s_near_by (Str.ofString "near_by") ["lamps", "ties"] := fun _ _ _ _ _ _ us hl => match us, hl with | [_, _], _ => rfl
abbrev s_check_net : Stmt := top 21
theorem sc_check_net : FnScope ["value"] ["value"] (defScope s_check_net) := ⟨rfl, rfl, rfl, by decide +kernel, rfl, by decide +kernel, by decide +kernel⟩
theorem bb_check_net : BindsBy s_check_net (Str.ofString "check_net") ["value"] := fun _ _ _ _ _ _ us hl => match us, hl with | [_], _ => rfl
abbrev s_are_lamps_of : Stmt := top 22
theorem sc_are_lamps_of : FnScope ["net", "value", "lamp"] ["net", "value"] (defScope s_are_lamps_of) := ⟨rfl, rfl, rfl, by decide +kernel, rfl, by decide +kernel, by decide +kernel⟩
theorem bb_are_lamps_of : BindsBy s_are_lamps_of (Str.ofString "are_lamps_of") ["net", "value"] := fun _ _ _ _ _ _ us hl => match us, hl with | [_, _], _ => rfl
abbrev s_check_setting : Stmt := top 24
theorem sc_check_setting : FnScope ["net", "value"] ["net", "value"] (defScope s_check_setting) := ⟨rfl, rfl, rfl, by decide +kernel, rfl, by decide +kernel, by decide +kernel⟩
theorem bb_check_setting : BindsBy s_check_setting (Str.ofString "check_setting") ["net", "value"] := fun _ _ _ _ _ _ us hl => match us, hl with | [_, _], _ => rfl
abbrev s_check_set : Stmt := top 25
theorem sc_check_set : FnScope ["net", "setting"] ["net", "setting"] (defScope s_check_set) := ⟨rfl, rfl, rfl, by decide +kernel, rfl, by decide +kernel, by decide +kernel⟩
theorem bb_check_set : BindsBy s_check_set (Str.ofString "check_set") ["net", "setting"] := fun _ _ _ _ _ _ us hl => match us, hl with | [_, _], _ => rfl
abbrev s_lit_at : Stmt := top 26
theorem sc_lit_at : FnScope ["net", "setting", "lamp", "other"] ["net", "setting", "lamp"] (defScope s_lit_at) := ⟨rfl, rfl, rfl, by decide +kernel, rfl, by decide +kernel, by decide +kernel⟩
theorem bb_lit_at : BindsBy s_lit_at (Str.ofString "lit_at") ["net", "setting", "lamp"] := fun _ _ _ _ _ _ us hl => match us, hl with | [_, _, _], _ => rfl
abbrev s_is_ready_in : Stmt := top 27
theorem sc_is_ready_in : FnScope ["net", "setting", "lamp", "wish"] ["net", "setting", "lamp"] (defScope s_is_ready_in) := ⟨rfl, rfl, rfl, by decide +kernel, rfl, by decide +kernel, by decide +kernel⟩
theorem bb_is_ready_in : BindsBy s_is_ready_in (Str.ofString "is_ready_in") ["net", "setting", "lamp"] := fun _ _ _ _ _ _ us hl => match us, hl with | [_, _, _], _ => rfl
abbrev s_ready_in : Stmt := top 28
theorem sc_ready_in : FnScope ["net", "setting", "lamp"] ["net", "setting"] (defScope s_ready_in) := ⟨rfl, rfl, rfl, by decide +kernel, rfl, by decide +kernel, by decide +kernel⟩
theorem bb_ready_in : BindsBy s_ready_in (Str.ofString "ready_in") ["net", "setting"] := fun _ _ _ _ _ _ us hl => match us, hl with | [_, _], _ => rfl
abbrev s_flipped : Stmt := top 29
theorem sc_flipped : FnScope ["setting", "lamp", "other"] ["setting", "lamp"] (defScope s_flipped) := ⟨rfl, rfl, rfl, by decide +kernel, rfl, by decide +kernel, by decide +kernel⟩
theorem bb_flipped : BindsBy s_flipped (Str.ofString "flipped") ["setting", "lamp"] := fun _ _ _ _ _ _ us hl => match us, hl with | [_, _], _ => rfl
abbrev s_layers_from : Stmt := top 31
theorem sc_layers_from : FnScope ["net", "setting", "found", "waiting", "later", "here", "lamp", "there"] ["net", "setting"] (defScope s_layers_from) := ⟨rfl, rfl, rfl, by decide +kernel, rfl, by decide +kernel, by decide +kernel⟩
theorem bb_layers_from : BindsBy s_layers_from (Str.ofString "layers_from") ["net", "setting"] := fun _ _ _ _ _ _ us hl => match us, hl with | [_, _], _ => rfl
abbrev s_class_of : Stmt := top 32
theorem sc_class_of : FnScope ["net", "setting", "here"] ["net", "setting"] (defScope s_class_of) := ⟨rfl, rfl, rfl, by decide +kernel, rfl, by decide +kernel, by decide +kernel⟩
theorem bb_class_of : BindsBy s_class_of (Str.ofString "class_of") ["net", "setting"] := fun _ _ _ _ _ _ us hl => match us, hl with | [_, _], _ => rfl
abbrev s_by_deeds : Stmt := top 33
theorem sc_by_deeds : FnScope ["net", "setting", "numbers", "number"] ["net", "setting"] (defScope s_by_deeds) := ⟨rfl, rfl, rfl, by decide +kernel, rfl, by decide +kernel, by decide +kernel⟩
theorem bb_by_deeds : BindsBy s_by_deeds (Str.ofString "by_deeds") ["net", "setting"] := fun _ _ _ _ _ _ us hl => match us, hl with | [_, _], _ => rfl
abbrev s_farthest : Stmt := top 34
theorem sc_farthest : FnScope ["net", "setting", "layers", "most", "here"] ["net", "setting"] (defScope s_farthest) := ⟨rfl, rfl, rfl, by decide +kernel, rfl, by decide +kernel, by decide +kernel⟩
theorem bb_farthest : BindsBy s_farthest (Str.ofString "farthest") ["net", "setting"] := fun _ _ _ _ _ _ us hl => match us, hl with | [_, _], _ => rfl
abbrev s_is_farthest : Stmt := top 35
theorem sc_is_farthest : FnScope ["net", "setting", "value", "layers", "here"] ["net", "setting", "value"] (defScope s_is_farthest) := ⟨rfl, rfl, rfl, by decide +kernel, rfl, by decide +kernel, by decide +kernel⟩
theorem bb_is_farthest : BindsBy s_is_farthest (Str.ofString "is_farthest") ["net", "setting", "value"] := fun _ _ _ _ _ _ us hl => match us, hl with | [_, _, _], _ => rfl
abbrev s_width : Stmt := top 36
theorem sc_width : FnScope ["net", "setting", "here"] ["net", "setting"] (defScope s_width) := ⟨rfl, rfl, rfl, by decide +kernel, rfl, by decide +kernel, by decide +kernel⟩
theorem bb_width : BindsBy s_width (Str.ofString "width") ["net", "setting"] := fun _ _ _ _ _ _ us hl => match us, hl with | [_, _], _ => rfl
abbrev s_l_purse : Stmt := top 38
theorem sc_l_purse : FnScope ["_law_script", "_law_at", "_law_seed"] ["_law_script", "_law_at"] (defScope s_l_purse) := ⟨rfl, rfl, rfl, by decide +kernel, rfl, by decide +kernel, by decide +kernel⟩
theorem bb_l_purse : BindsBy s_l_purse (Str.ofString "_law_purse") ["_law_script", "_law_at"] := fun _ _ _ _ _ _ us hl => match us, hl with | [_, _], _ => rfl
abbrev s_l_mixed : Stmt := top 39
theorem sc_l_mixed : FnScope ["_law_seed", "_law_spin", "_law_at", "_law_mixed_here"] ["_law_seed", "_law_spin", "_law_at"] (defScope s_l_mixed) := ⟨rfl, rfl, rfl, by decide +kernel, rfl, by decide +kernel, by decide +kernel⟩
theorem bb_l_mixed : BindsBy s_l_mixed (Str.ofString "_law_mixed") ["_law_seed", "_law_spin", "_law_at"] := fun _ _ _ _ _ _ us hl => match us, hl with | [_, _, _], _ => rfl
abbrev s_l_draw : Stmt := top 40
theorem sc_l_draw : FnScope ["_law_purse_here", "_law_many", "_law_found", "_law_piece", "_law_drawn"] ["_law_purse_here", "_law_many"] (defScope s_l_draw) := ⟨rfl, rfl, rfl, by decide +kernel, rfl, by decide +kernel, by decide +kernel⟩
theorem bb_l_draw : BindsBy s_l_draw (Str.ofString "_law_draw") ["_law_purse_here", "_law_many"] := fun _ _ _ _ _ _ us hl => match us, hl with | [_, _], _ => rfl
abbrev s_l_purses : Stmt := top 41
theorem sc_l_purses : FnScope ["_law_script", "_law_few", "_law_at"] ["_law_script", "_law_few"] (defScope s_l_purses) := ⟨rfl, rfl, rfl, by decide +kernel, rfl, by decide +kernel, by decide +kernel⟩
theorem bb_l_purses : BindsBy s_l_purses (Str.ofString "_law_purses") ["_law_script", "_law_few"] := fun _ _ _ _ _ _ us hl => match us, hl with | [_, _], _ => rfl
abbrev s_l_one_of : Stmt := top 42
theorem sc_l_one_of : FnScope ["_law_purse_here", "_law_some"] ["_law_purse_here", "_law_some"] (defScope s_l_one_of) := ⟨rfl, rfl, rfl, by decide +kernel, rfl, by decide +kernel, by decide +kernel⟩
theorem bb_l_one_of : BindsBy s_l_one_of (Str.ofString "_law_one_of") ["_law_purse_here", "_law_some"] := fun _ _ _ _ _ _ us hl => match us, hl with | [_, _], _ => rfl
abbrev s_l_shuffled : Stmt := top 43
theorem sc_l_shuffled : FnScope ["_law_purse_here", "_law_some", "_law_found", "_law_item"] ["_law_purse_here", "_law_some"] (defScope s_l_shuffled) := ⟨rfl, rfl, rfl, by decide +kernel, rfl, by decide +kernel, by decide +kernel⟩
theorem bb_l_shuffled : BindsBy s_l_shuffled (Str.ofString "_law_shuffled") ["_law_purse_here", "_law_some"] := fun _ _ _ _ _ _ us hl => match us, hl with | [_, _], _ => rfl
abbrev s_l_same : Stmt := top 44
theorem sc_l_same : FnScope ["_law_thing", "_law_item", "_law_key"] ["_law_thing"] (defScope s_l_same) := ⟨rfl, rfl, rfl, by decide +kernel, rfl, by decide +kernel, by decide +kernel⟩
theorem bb_l_same : BindsBy s_l_same (Str.ofString "_law_same") ["_law_thing"] := fun _ _ _ _ _ _ us hl => match us, hl with | [_], _ => rfl
abbrev s_l_exact : Stmt := top 45
theorem sc_l_exact : FnScope ["_law_mine", "_law_theirs", "_law_alike", "_law_key", "_law_a", "_law_b"] ["_law_mine", "_law_theirs"] (defScope s_l_exact) := ⟨rfl, rfl, rfl, by decide +kernel, rfl, by decide +kernel, by decide +kernel⟩
theorem bb_l_exact : BindsBy s_l_exact (Str.ofString "_law_exact") ["_law_mine", "_law_theirs"] := fun _ _ _ _ _ _ us hl => match us, hl with | [_, _], _ => rfl
abbrev s_l_word : Stmt := top 46
theorem sc_l_word : FnScope ["_law_purse_here", "_law_size", "_law_spin"] ["_law_purse_here"] (defScope s_l_word) := ⟨rfl, rfl, rfl, by decide +kernel, rfl, by decide +kernel, by decide +kernel⟩
theorem bb_l_word : BindsBy s_l_word (Str.ofString "_law_word") ["_law_purse_here"] := fun _ _ _ _ _ _ us hl => match us, hl with | [_], _ => rfl
abbrev s_l_words : Stmt := top 47
theorem sc_l_words : FnScope ["_law_purse_here", "_law_many", "_law_spin", "_law_base", "_law_near_here", "_law_spot", "_law_found", "_law_word_here", "_law_letter"] ["_law_purse_here", "_law_many"] (defScope s_l_words) := ⟨rfl, rfl, rfl, by decide +kernel, rfl, by decide +kernel, by decide +kernel⟩
theorem bb_l_words : BindsBy s_l_words (Str.ofString "_law_words") ["_law_purse_here", "_law_many"] := fun _ _ _ _ _ _ us hl => match us, hl with | [_, _], _ => rfl
abbrev s_l_pairs_drawn : Stmt := top 48
theorem sc_l_pairs_drawn : FnScope ["_law_purse_here", "_law_points", "_law_many", "_law_found", "_law_spin", "_law_one", "_law_other", "_law_late"] ["_law_purse_here", "_law_points", "_law_many"] (defScope s_l_pairs_drawn) := ⟨rfl, rfl, rfl, by decide +kernel, rfl, by decide +kernel, by decide +kernel⟩
theorem bb_l_pairs_drawn : BindsBy s_l_pairs_drawn (Str.ofString "_law_pairs_drawn") ["_law_purse_here", "_law_points", "_law_many"] := fun _ _ _ _ _ _ us hl => match us, hl with | [_, _, _], _ => rfl
abbrev s_l_ties_of_pairs : Stmt := top 49
theorem sc_l_ties_of_pairs : FnScope ["_law_pairs", "_law_found", "_law_first", "_law_late", "_law_point"] ["_law_pairs"] (defScope s_l_ties_of_pairs) := ⟨rfl, rfl, rfl, by decide +kernel, rfl, by decide +kernel, by decide +kernel⟩
theorem bb_l_ties_of_pairs : BindsBy s_l_ties_of_pairs (Str.ofString "_law_ties_of_pairs") ["_law_pairs"] := fun _ _ _ _ _ _ us hl => match us, hl with | [_], _ => rfl
abbrev s_l_wishes_by : Stmt := top 50
theorem sc_l_wishes_by : FnScope ["_law_pairs", "_law_highs", "_law_one", "_law_other"] ["_law_pairs", "_law_highs"] (defScope s_l_wishes_by) := ⟨rfl, rfl, rfl, by decide +kernel, rfl, by decide +kernel, by decide +kernel⟩
theorem bb_l_wishes_by : BindsBy s_l_wishes_by (Str.ofString "_law_wishes_by") ["_law_pairs", "_law_highs"] := fun _ _ _ _ _ _ us hl => match us, hl with | [_, _], _ => rfl
abbrev s_l_paired_part : Stmt := top 51
theorem sc_l_paired_part : FnScope ["_law_purse_here", "_law_many", "_law_points", "_law_pairs", "_law_wants", "_law_at", "_law_point"] ["_law_purse_here", "_law_many"] (defScope s_l_paired_part) := ⟨rfl, rfl, rfl, by decide +kernel, rfl, by decide +kernel, by decide +kernel⟩
theorem bb_l_paired_part : BindsBy s_l_paired_part (Str.ofString "_law_paired_part") ["_law_purse_here", "_law_many"] := fun _ _ _ _ _ _ us hl => match us, hl with | [_, _], _ => rfl
abbrev s_l_core_part : Stmt := top 52
theorem sc_l_core_part : FnScope ["_law_purse_here", "_law_many", "_law_edges", "_law_late", "_law_some", "_law_at"] ["_law_purse_here", "_law_many"] (defScope s_l_core_part) := ⟨rfl, rfl, rfl, by decide +kernel, rfl, by decide +kernel, by decide +kernel⟩
theorem bb_l_core_part : BindsBy s_l_core_part (Str.ofString "_law_core_part") ["_law_purse_here", "_law_many"] := fun _ _ _ _ _ _ us hl => match us, hl with | [_, _], _ => rfl
abbrev s_l_family_part : Stmt := top 53
theorem sc_l_family_part : FnScope ["_law_purse_here", "_law_many", "_law_kind", "_law_other", "_law_some", "_law_row", "_law_full", "_law_edges", "_law_at", "_law_one", "_law_late", "_law_pair"] ["_law_purse_here", "_law_many"] (defScope s_l_family_part) := ⟨rfl, rfl, rfl, by decide +kernel, rfl, by decide +kernel, by decide +kernel⟩
theorem bb_l_family_part : BindsBy s_l_family_part (Str.ofString "_law_family_part") ["_law_purse_here", "_law_many"] := fun _ _ _ _ _ _ us hl => match us, hl with | [_, _], _ => rfl
abbrev s_l_part : Stmt := top 54
theorem sc_l_part : FnScope ["_law_purse_here", "_law_many", "_law_kind"] ["_law_purse_here", "_law_many"] (defScope s_l_part) := ⟨rfl, rfl, rfl, by decide +kernel, rfl, by decide +kernel, by decide +kernel⟩
theorem bb_l_part : BindsBy s_l_part (Str.ofString "_law_part") ["_law_purse_here", "_law_many"] := fun _ _ _ _ _ _ us hl => match us, hl with | [_, _], _ => rfl
abbrev s_l_net_of : Stmt := top 55
theorem sc_l_net_of : FnScope ["_law_words_here", "_law_parts", "_law_stuck", "_law_late", "_law_named", "_law_bulbs", "_law_edges", "_law_wants", "_law_begin", "_law_many", "_law_inner", "_law_told", "_law_at", "_law_one", "_law_other", "_law_lamp", "_law_edge"] ["_law_words_here", "_law_parts", "_law_stuck"] (defScope s_l_net_of) := ⟨rfl, rfl, rfl, by decide +kernel, rfl, by decide +kernel, by decide +kernel⟩
theorem bb_l_net_of : BindsBy s_l_net_of (Str.ofString "_law_net_of") ["_law_words_here", "_law_parts", "_law_stuck"] := fun _ _ _ _ _ _ us hl => match us, hl with | [_, _, _], _ => rfl
abbrev s_l_scene : Stmt := top 56
theorem sc_l_scene : FnScope ["_law_purse_here", "_law_most", "_law_parts", "_law_rest", "_law_stuck", "_law_late", "_law_free_here", "_law_more", "_law_part_here", "_law_at"] ["_law_purse_here", "_law_most"] (defScope s_l_scene) := ⟨rfl, rfl, rfl, by decide +kernel, rfl, by decide +kernel, by decide +kernel⟩
theorem bb_l_scene : BindsBy s_l_scene (Str.ofString "_law_scene") ["_law_purse_here", "_law_most"] := fun _ _ _ _ _ _ us hl => match us, hl with | [_, _], _ => rfl
abbrev s_l_free : Stmt := top 57
theorem sc_l_free : FnScope ["_law_net_here", "_law_lamp"] ["_law_net_here"] (defScope s_l_free) := ⟨rfl, rfl, rfl, by decide +kernel, rfl, by decide +kernel, by decide +kernel⟩
theorem bb_l_free : BindsBy s_l_free (Str.ofString "_law_free") ["_law_net_here"] := fun _ _ _ _ _ _ us hl => match us, hl with | [_], _ => rfl
abbrev s_l_near : Stmt := top 58
theorem sc_l_near : FnScope ["_law_net_here", "_law_found", "_law_one", "_law_other", "_law_lamp"] ["_law_net_here"] (defScope s_l_near) := ⟨rfl, rfl, rfl, by decide +kernel, rfl, by decide +kernel, by decide +kernel⟩
theorem bb_l_near : BindsBy s_l_near (Str.ofString "_law_near") ["_law_net_here"] := fun _ _ _ _ _ _ us hl => match us, hl with | [_], _ => rfl
abbrev s_l_is_ready : Stmt := top 59
theorem sc_l_is_ready : FnScope ["_law_net_here", "_law_near_here", "_law_setting_here", "_law_lamp", "_law_lit", "_law_other"] ["_law_net_here", "_law_near_here", "_law_setting_here", "_law_lamp"] (defScope s_l_is_ready) := ⟨rfl, rfl, rfl, by decide +kernel, rfl, by decide +kernel, by decide +kernel⟩
theorem bb_l_is_ready : BindsBy s_l_is_ready (Str.ofString "_law_is_ready") ["_law_net_here", "_law_near_here", "_law_setting_here", "_law_lamp"] := fun _ _ _ _ _ _ us hl => match us, hl with | [_, _, _, _], _ => rfl
abbrev s_l_flip : Stmt := top 60
theorem sc_l_flip : FnScope ["_law_setting_here", "_law_lamp", "_law_other"] ["_law_setting_here", "_law_lamp"] (defScope s_l_flip) := ⟨rfl, rfl, rfl, by decide +kernel, rfl, by decide +kernel, by decide +kernel⟩
theorem bb_l_flip : BindsBy s_l_flip (Str.ofString "_law_flip") ["_law_setting_here", "_law_lamp"] := fun _ _ _ _ _ _ us hl => match us, hl with | [_, _], _ => rfl
abbrev s_l_reached : Stmt := top 61
theorem sc_l_reached : FnScope ["_law_net_here", "_law_setting_here", "_law_waiting", "_law_near_here", "_law_free_here", "_law_found", "_law_later", "_law_here", "_law_lamp", "_law_there"] ["_law_net_here", "_law_setting_here"] (defScope s_l_reached) := ⟨rfl, rfl, rfl, by decide +kernel, rfl, by decide +kernel, by decide +kernel⟩
theorem bb_l_reached : BindsBy s_l_reached (Str.ofString "_law_reached") ["_law_net_here", "_law_setting_here"] := fun _ _ _ _ _ _ us hl => match us, hl with | [_, _], _ => rfl
abbrev s_l_setting : Stmt := top 62
theorem sc_l_setting : FnScope ["_law_purse_here", "_law_net_here", "_law_lamp"] ["_law_purse_here", "_law_net_here"] (defScope s_l_setting) := ⟨rfl, rfl, rfl, by decide +kernel, rfl, by decide +kernel, by decide +kernel⟩
theorem bb_l_setting : BindsBy s_l_setting (Str.ofString "_law_setting") ["_law_purse_here", "_law_net_here"] := fun _ _ _ _ _ _ us hl => match us, hl with | [_, _], _ => rfl
abbrev s_l_far : Stmt := top 63
theorem sc_l_far : FnScope ["_law_words_here", "_law_letter"] ["_law_words_here"] (defScope s_l_far) := ⟨rfl, rfl, rfl, by decide +kernel, rfl, by decide +kernel, by decide +kernel⟩
theorem bb_l_far : BindsBy s_l_far (Str.ofString "_law_far") ["_law_words_here"] := fun _ _ _ _ _ _ us hl => match us, hl with | [_], _ => rfl
abbrev s_l_net : Stmt := top 64
theorem sc_l_net : FnScope ["_law_net_here", "_law_step", "_law_lamp"] ["_law_net_here"] (defScope s_l_net) := ⟨rfl, rfl, rfl, by decide +kernel, rfl, by decide +kernel, by decide +kernel⟩
theorem bb_l_net : BindsBy s_l_net (Str.ofString "_law_net") ["_law_net_here"] := fun _ _ _ _ _ _ us hl => match us, hl with | [_], _ => rfl
abbrev s_l_places : Stmt := top 65
theorem sc_l_places : FnScope ["_law_layers", "_law_most", "_law_here"] ["_law_layers", "_law_most"] (defScope s_l_places) := ⟨rfl, rfl, rfl, by decide +kernel, rfl, by decide +kernel, by decide +kernel⟩
theorem bb_l_places : BindsBy s_l_places (Str.ofString "_law_places") ["_law_layers", "_law_most"] := fun _ _ _ _ _ _ us hl => match us, hl with | [_, _], _ => rfl
abbrev s_l_turned_stuck : Stmt := top 66
theorem sc_l_turned_stuck : FnScope ["_law_net_here", "_law_setting_here", "_law_stuck", "_law_lamp"] ["_law_net_here", "_law_setting_here"] (defScope s_l_turned_stuck) := ⟨rfl, rfl, rfl, by decide +kernel, rfl, by decide +kernel, by decide +kernel⟩
theorem bb_l_turned_stuck : BindsBy s_l_turned_stuck (Str.ofString "_law_turned_stuck") ["_law_net_here", "_law_setting_here"] := fun _ _ _ _ _ _ us hl => match us, hl with | [_, _], _ => rfl
abbrev s_l_class_right : Stmt := top 67
theorem sc_l_class_right : FnScope ["_law_purse_here", "_law_net_here", "_law_made", "_law_setting_here", "_law_due", "_law_values", "_law_value", "_law_other", "_law_part_here", "_law_layers", "_law_handed", "_law_most", "_law_numbers", "_law_told", "_law_late", "_law_fresh", "_law_far_here", "_law_kept", "_law_some", "_law_noted", "_law_right", "_law_number", "_law_turn", "_law_here"] ["_law_purse_here", "_law_net_here", "_law_made", "_law_setting_here"] (defScope s_l_class_right) := ⟨rfl, rfl, rfl, by decide +kernel, rfl, by decide +kernel, by decide +kernel⟩
theorem bb_l_class_right : BindsBy s_l_class_right (Str.ofString "_law_class_right") ["_law_purse_here", "_law_net_here", "_law_made", "_law_setting_here"] := fun _ _ _ _ _ _ us hl => match us, hl with | [_, _, _, _], _ => rfl
abbrev s_l_kite : Stmt := top 68
theorem sc_l_kite : FnScope ["_law_purse_here", "_law_words_here", "_law_edges", "_law_named", "_law_net_here", "_law_lamp", "_law_start", "_law_lot", "_law_near_here", "_law_one", "_law_other"] ["_law_purse_here"] (defScope s_l_kite) := ⟨rfl, rfl, rfl, by decide +kernel, rfl, by decide +kernel, by decide +kernel⟩
theorem bb_l_kite : BindsBy s_l_kite (Str.ofString "_law_kite") ["_law_purse_here"] := fun _ _ _ _ _ _ us hl => match us, hl with | [_], _ => rfl
abbrev s_l_width_of : Stmt := top 69
theorem sc_l_width_of : FnScope ["_law_net_here", "_law_setting_here", "_law_here"] ["_law_net_here", "_law_setting_here"] (defScope s_l_width_of) := ⟨rfl, rfl, rfl, by decide +kernel, rfl, by decide +kernel, by decide +kernel⟩
theorem bb_l_width_of : BindsBy s_l_width_of (Str.ofString "_law_width_of") ["_law_net_here", "_law_setting_here"] := fun _ _ _ _ _ _ us hl => match us, hl with | [_, _], _ => rfl
abbrev s_l_widths_right : Stmt := top 70
theorem sc_l_widths_right : FnScope ["_law_purse_here", "_law_net_here", "_law_starts", "_law_made", "_law_dues", "_law_at", "_law_other", "_law_handed", "_law_start"] ["_law_purse_here", "_law_net_here", "_law_starts"] (defScope s_l_widths_right) := ⟨rfl, rfl, rfl, by decide +kernel, rfl, by decide +kernel, by decide +kernel⟩
theorem bb_l_widths_right : BindsBy s_l_widths_right (Str.ofString "_law_widths_right") ["_law_purse_here", "_law_net_here", "_law_starts"] := fun _ _ _ _ _ _ us hl => match us, hl with | [_, _, _], _ => rfl
abbrev s_l_far_in_turn : Stmt := top 71
theorem sc_l_far_in_turn : FnScope ["_law_purse_here", "_law_net_here", "_law_made", "_law_first", "_law_second", "_law_most", "_law_values", "_law_due", "_law_value", "_law_late", "_law_layers", "_law_others", "_law_told", "_law_number", "_law_turn"] ["_law_purse_here", "_law_net_here", "_law_made", "_law_first", "_law_second"] (defScope s_l_far_in_turn) := ⟨rfl, rfl, rfl, by decide +kernel, rfl, by decide +kernel, by decide +kernel⟩
theorem bb_l_far_in_turn : BindsBy s_l_far_in_turn (Str.ofString "_law_far_in_turn") ["_law_purse_here", "_law_net_here", "_law_made", "_law_first", "_law_second"] := fun _ _ _ _ _ _ us hl => match us, hl with | [_, _, _, _, _], _ => rfl
abbrev s_law : Stmt := top 72
theorem sc_law : FnScope ["_law_script", "_law_purse_here", "_law_lone", "_law_told", "_law_net_here", "_law_setting_here", "_law_small", "_law_few", "_law_made", "_law_one", "_law_kite_here", "_law_start", "_law_turn"] ["_law_script"] (defScope s_law) := ⟨rfl, rfl, rfl, by decide +kernel, rfl, by decide +kernel, by decide +kernel⟩
theorem bb_law : BindsBy s_law (Str.ofString "law") ["_law_script"] := fun _ _ _ _ _ _ us hl => match us, hl with | [_], _ => rfl
/-! ### what the top has left -/
structure Env (K : PySem.W.Frag) (mg : Str → Option Value) (C : Addr) : Prop where
  t_is_spelt : Top1 K mg "is_spelt" s_is_spelt
  t_are_spelt : Top1 K mg "are_spelt" s_are_spelt
  t_is_rising : Top1 K mg "is_rising" s_is_rising
  t_are_rising_words : Top1 K mg "are_rising_words" s_are_rising_words
  t_are_unlike_words : Top1 K mg "are_unlike_words" s_are_unlike_words
  t_is_tie : Top1 K mg "is_tie" s_is_tie
  t_are_ties : Top1 K mg "are_ties" s_are_ties
  t_are_wishes : Top1 K mg "are_wishes" s_are_wishes
  t_near_by : Top1 K mg "near_by" s_near_by
  t_check_net : Top1 K mg "check_net" s_check_net
  t_are_lamps_of : Top1 K mg "are_lamps_of" s_are_lamps_of
  t_check_setting : Top1 K mg "check_setting" s_check_setting
  t_check_set : Top1 K mg "check_set" s_check_set
  t_lit_at : Top1 K mg "lit_at" s_lit_at
  t_is_ready_in : Top1 K mg "is_ready_in" s_is_ready_in
  t_ready_in : Top1 K mg "ready_in" s_ready_in
  t_flipped : Top1 K mg "flipped" s_flipped
  t_layers_from : Top1 K mg "layers_from" s_layers_from
  t_class_of : Top1 K mg "class_of" s_class_of
  t_by_deeds : Top1 K mg "by_deeds" s_by_deeds
  t_farthest : Top1 K mg "farthest" s_farthest
  t_is_farthest : Top1 K mg "is_farthest" s_is_farthest
  t_width : Top1 K mg "width" s_width
  t_l_purse : Top1 K mg "_law_purse" s_l_purse
  t_l_mixed : Top1 K mg "_law_mixed" s_l_mixed
  t_l_draw : Top1 K mg "_law_draw" s_l_draw
  t_l_purses : Top1 K mg "_law_purses" s_l_purses
  t_l_one_of : Top1 K mg "_law_one_of" s_l_one_of
  t_l_shuffled : Top1 K mg "_law_shuffled" s_l_shuffled
  t_l_same : Top1 K mg "_law_same" s_l_same
  t_l_exact : Top1 K mg "_law_exact" s_l_exact
  t_l_word : Top1 K mg "_law_word" s_l_word
  t_l_words : Top1 K mg "_law_words" s_l_words
  t_l_pairs_drawn : Top1 K mg "_law_pairs_drawn" s_l_pairs_drawn
  t_l_ties_of_pairs : Top1 K mg "_law_ties_of_pairs" s_l_ties_of_pairs
  t_l_wishes_by : Top1 K mg "_law_wishes_by" s_l_wishes_by
  t_l_paired_part : Top1 K mg "_law_paired_part" s_l_paired_part
  t_l_core_part : Top1 K mg "_law_core_part" s_l_core_part
  t_l_family_part : Top1 K mg "_law_family_part" s_l_family_part
  t_l_part : Top1 K mg "_law_part" s_l_part
  t_l_net_of : Top1 K mg "_law_net_of" s_l_net_of
  t_l_scene : Top1 K mg "_law_scene" s_l_scene
  t_l_free : Top1 K mg "_law_free" s_l_free
  t_l_near : Top1 K mg "_law_near" s_l_near
  t_l_is_ready : Top1 K mg "_law_is_ready" s_l_is_ready
  t_l_flip : Top1 K mg "_law_flip" s_l_flip
  t_l_reached : Top1 K mg "_law_reached" s_l_reached
  t_l_setting : Top1 K mg "_law_setting" s_l_setting
  t_l_far : Top1 K mg "_law_far" s_l_far
  t_l_net : Top1 K mg "_law_net" s_l_net
  t_l_places : Top1 K mg "_law_places" s_l_places
  t_l_turned_stuck : Top1 K mg "_law_turned_stuck" s_l_turned_stuck
  t_l_class_right : Top1 K mg "_law_class_right" s_l_class_right
  t_l_kite : Top1 K mg "_law_kite" s_l_kite
  t_l_width_of : Top1 K mg "_law_width_of" s_l_width_of
  t_l_widths_right : Top1 K mg "_law_widths_right" s_l_widths_right
  t_l_far_in_turn : Top1 K mg "_law_far_in_turn" s_l_far_in_turn
  t_law : Top1 K mg "law" s_law
  n_len : mg "len" = none
  n_set : mg "set" = none
  n_list : mg "list" = none
  n_tuple : mg "tuple" = none
  n_dict : mg "dict" = none
  n_int : mg "int" = none
  n_str : mg "str" = none
  n_bool : mg "bool" = none
  n_sum : mg "sum" = none
  n_max : mg "max" = none
  n_min : mg "min" = none
  n_sorted : mg "sorted" = none
  n_range : mg "range" = none
  n_zip : mg "zip" = none
  n_all : mg "all" = none
  n_any : mg "any" = none
  n_isinstance : mg "isinstance" = none
  x_LONGEST : ∃ t, mg "LONGEST" = some (.int 8 t)
  x_WISHES : ∃ wa, mg "WISHES" = some (.ref wa) ∧ ∀ H, SqT K H wa [.str "odd", .str "even", .str "stuck"]
  mgN : mg "Net" = some (.ref C)
  isN : C8.InsC K C
  x_init : ∃ f fd, Fun K "__init__" "Net.__init__" s_net_init f fd ∧ Mk K C f
  x_eq : ∃ f fd, Fun K "__eq__" "Net.__eq__" s_net_eq f fd ∧ PySem.W.findIn K (.ref C) "__eq__" = some (some (.ref f)) ∧ PySem.W.isFn K (.ref f) = true
  ne : PySem.W.findIn K (.ref C) "__ne__" = some (some (.builtin "object.__ne__"))
  ob : PySem.W.subIn K (.ref C) (.type "object") = some true
  f_bulbs : NoAttr K C "bulbs"
  f_edges : NoAttr K C "edges"
  f_wants : NoAttr K C "wants"
  f_near : NoAttr K C "near"
  f_free : NoAttr K C "free"
  f_known : NoAttr K C "known"
end K41
set_option maxHeartbeats 0
namespace K41
open PySem PySem.Spec PyProof.Rows L2
/-! ### the head: the facts asked of the top, by names -/
def hFn0 : List He.FnD := [⟨("is_spelt", none), "is_spelt", "is_spelt", defArgs s_is_spelt, defBody s_is_spelt, defScope s_is_spelt⟩, ⟨("are_spelt", none), "are_spelt", "are_spelt", defArgs s_are_spelt, defBody s_are_spelt, defScope s_are_spelt⟩, ⟨("is_rising", none), "is_rising", "is_rising", defArgs s_is_rising, defBody s_is_rising, defScope s_is_rising⟩, ⟨("are_rising_words", none), "are_rising_words", "are_rising_words", defArgs s_are_rising_words, defBody s_are_rising_words, defScope s_are_rising_words⟩, ⟨("are_unlike_words", none), "are_unlike_words", "are_unlike_words", defArgs s_are_unlike_words, defBody s_are_unlike_words, defScope s_are_unlike_words⟩, ⟨("is_tie", none), "is_tie", "is_tie", defArgs s_is_tie, defBody s_is_tie, defScope s_is_tie⟩, ⟨("are_ties", none), "are_ties", "are_ties", defArgs s_are_ties, defBody s_are_ties, defScope s_are_ties⟩, ⟨("are_wishes", none), "are_wishes", "are_wishes", defArgs s_are_wishes, defBody s_are_wishes, defScope s_are_wishes⟩, ⟨("near_by", none), "near_by", "near_by", defArgs s_near_by, defBody s_near_by, defScope s_near_by⟩, ⟨("check_net", none), "check_net", "check_net", defArgs s_check_net, defBody s_check_net, defScope s_check_net⟩, ⟨("are_lamps_of", none), "are_lamps_of", "are_lamps_of", defArgs s_are_lamps_of, defBody s_are_lamps_of, defScope s_are_lamps_of⟩, ⟨("check_setting", none), "check_setting", "check_setting", defArgs s_check_setting, defBody s_check_setting, defScope s_check_setting⟩, ⟨("check_set", none), "check_set", "check_set", defArgs s_check_set, defBody s_check_set, defScope s_check_set⟩, ⟨("lit_at", none), "lit_at", "lit_at", defArgs s_lit_at, defBody s_lit_at, defScope s_lit_at⟩, ⟨("is_ready_in", none), "is_ready_in", "is_ready_in", defArgs s_is_ready_in, defBody s_is_ready_in, defScope s_is_ready_in⟩, ⟨("ready_in", none), "ready_in", "ready_in", defArgs s_ready_in, defBody s_ready_in, defScope s_ready_in⟩, ⟨("flipped", none), "flipped", "flipped", defArgs s_flipped, defBody s_flipped, defScope s_flipped⟩, ⟨("layers_from", none), "layers_from", "layers_from", defArgs s_layers_from, defBody s_layers_from, defScope s_layers_from⟩, ⟨("class_of", none), "class_of", "class_of", defArgs s_class_of, defBody s_class_of, defScope s_class_of⟩, ⟨("by_deeds", none), "by_deeds", "by_deeds", defArgs s_by_deeds, defBody s_by_deeds, defScope s_by_deeds⟩]
def hFn1 : List He.FnD := [⟨("farthest", none), "farthest", "farthest", defArgs s_farthest, defBody s_farthest, defScope s_farthest⟩, ⟨("is_farthest", none), "is_farthest", "is_farthest", defArgs s_is_farthest, defBody s_is_farthest, defScope s_is_farthest⟩, ⟨("width", none), "width", "width", defArgs s_width, defBody s_width, defScope s_width⟩, ⟨("_law_purse", none), "_law_purse", "_law_purse", defArgs s_l_purse, defBody s_l_purse, defScope s_l_purse⟩, ⟨("_law_mixed", none), "_law_mixed", "_law_mixed", defArgs s_l_mixed, defBody s_l_mixed, defScope s_l_mixed⟩, ⟨("_law_draw", none), "_law_draw", "_law_draw", defArgs s_l_draw, defBody s_l_draw, defScope s_l_draw⟩, ⟨("_law_purses", none), "_law_purses", "_law_purses", defArgs s_l_purses, defBody s_l_purses, defScope s_l_purses⟩, ⟨("_law_one_of", none), "_law_one_of", "_law_one_of", defArgs s_l_one_of, defBody s_l_one_of, defScope s_l_one_of⟩, ⟨("_law_shuffled", none), "_law_shuffled", "_law_shuffled", defArgs s_l_shuffled, defBody s_l_shuffled, defScope s_l_shuffled⟩, ⟨("_law_same", none), "_law_same", "_law_same", defArgs s_l_same, defBody s_l_same, defScope s_l_same⟩, ⟨("_law_exact", none), "_law_exact", "_law_exact", defArgs s_l_exact, defBody s_l_exact, defScope s_l_exact⟩, ⟨("_law_word", none), "_law_word", "_law_word", defArgs s_l_word, defBody s_l_word, defScope s_l_word⟩, ⟨("_law_words", none), "_law_words", "_law_words", defArgs s_l_words, defBody s_l_words, defScope s_l_words⟩, ⟨("_law_pairs_drawn", none), "_law_pairs_drawn", "_law_pairs_drawn", defArgs s_l_pairs_drawn, defBody s_l_pairs_drawn, defScope s_l_pairs_drawn⟩, ⟨("_law_ties_of_pairs", none), "_law_ties_of_pairs", "_law_ties_of_pairs", defArgs s_l_ties_of_pairs, defBody s_l_ties_of_pairs, defScope s_l_ties_of_pairs⟩, ⟨("_law_wishes_by", none), "_law_wishes_by", "_law_wishes_by", defArgs s_l_wishes_by, defBody s_l_wishes_by, defScope s_l_wishes_by⟩, ⟨("_law_paired_part", none), "_law_paired_part", "_law_paired_part", defArgs s_l_paired_part, defBody s_l_paired_part, defScope s_l_paired_part⟩, ⟨("_law_core_part", none), "_law_core_part", "_law_core_part", defArgs s_l_core_part, defBody s_l_core_part, defScope s_l_core_part⟩, ⟨("_law_family_part", none), "_law_family_part", "_law_family_part", defArgs s_l_family_part, defBody s_l_family_part, defScope s_l_family_part⟩, ⟨("_law_part", none), "_law_part", "_law_part", defArgs s_l_part, defBody s_l_part, defScope s_l_part⟩]
def hFn2 : List He.FnD := [⟨("_law_net_of", none), "_law_net_of", "_law_net_of", defArgs s_l_net_of, defBody s_l_net_of, defScope s_l_net_of⟩, ⟨("_law_scene", none), "_law_scene", "_law_scene", defArgs s_l_scene, defBody s_l_scene, defScope s_l_scene⟩, ⟨("_law_free", none), "_law_free", "_law_free", defArgs s_l_free, defBody s_l_free, defScope s_l_free⟩, ⟨("_law_near", none), "_law_near", "_law_near", defArgs s_l_near, defBody s_l_near, defScope s_l_near⟩, ⟨("_law_is_ready", none), "_law_is_ready", "_law_is_ready", defArgs s_l_is_ready, defBody s_l_is_ready, defScope s_l_is_ready⟩, ⟨("_law_flip", none), "_law_flip", "_law_flip", defArgs s_l_flip, defBody s_l_flip, defScope s_l_flip⟩, ⟨("_law_reached", none), "_law_reached", "_law_reached", defArgs s_l_reached, defBody s_l_reached, defScope s_l_reached⟩, ⟨("_law_setting", none), "_law_setting", "_law_setting", defArgs s_l_setting, defBody s_l_setting, defScope s_l_setting⟩, ⟨("_law_far", none), "_law_far", "_law_far", defArgs s_l_far, defBody s_l_far, defScope s_l_far⟩, ⟨("_law_net", none), "_law_net", "_law_net", defArgs s_l_net, defBody s_l_net, defScope s_l_net⟩, ⟨("_law_places", none), "_law_places", "_law_places", defArgs s_l_places, defBody s_l_places, defScope s_l_places⟩, ⟨("_law_turned_stuck", none), "_law_turned_stuck", "_law_turned_stuck", defArgs s_l_turned_stuck, defBody s_l_turned_stuck, defScope s_l_turned_stuck⟩, ⟨("_law_class_right", none), "_law_class_right", "_law_class_right", defArgs s_l_class_right, defBody s_l_class_right, defScope s_l_class_right⟩, ⟨("_law_kite", none), "_law_kite", "_law_kite", defArgs s_l_kite, defBody s_l_kite, defScope s_l_kite⟩, ⟨("_law_width_of", none), "_law_width_of", "_law_width_of", defArgs s_l_width_of, defBody s_l_width_of, defScope s_l_width_of⟩, ⟨("_law_widths_right", none), "_law_widths_right", "_law_widths_right", defArgs s_l_widths_right, defBody s_l_widths_right, defScope s_l_widths_right⟩, ⟨("_law_far_in_turn", none), "_law_far_in_turn", "_law_far_in_turn", defArgs s_l_far_in_turn, defBody s_l_far_in_turn, defScope s_l_far_in_turn⟩, ⟨("law", none), "law", "law", defArgs s_law, defBody s_law, defScope s_law⟩, ⟨("Net", some "__init__"), "__init__", "Net.__init__", defArgs s_net_init, defBody s_net_init, defScope s_net_init⟩, ⟨("Net", some "__eq__"), "__eq__", "Net.__eq__", defArgs s_net_eq, defBody s_net_eq, defScope s_net_eq⟩]
def hFn : List He.FnD := (hFn0 : List He.FnD) ++ (hFn1 : List He.FnD) ++ (hFn2 : List He.FnD)
def hFa0 : List He.Fa := [.glo "is_spelt", .glo "are_spelt", .glo "is_rising", .glo "are_rising_words", .glo "are_unlike_words", .glo "is_tie", .glo "are_ties", .glo "are_wishes", .glo "near_by", .glo "check_net", .glo "are_lamps_of", .glo "check_setting", .glo "check_set", .glo "lit_at", .glo "is_ready_in", .glo "ready_in", .glo "flipped", .glo "layers_from", .glo "class_of", .glo "by_deeds"]
def hFa1 : List He.Fa := [.glo "farthest", .glo "is_farthest", .glo "width", .glo "_law_purse", .glo "_law_mixed", .glo "_law_draw", .glo "_law_purses", .glo "_law_one_of", .glo "_law_shuffled", .glo "_law_same", .glo "_law_exact", .glo "_law_word", .glo "_law_words", .glo "_law_pairs_drawn", .glo "_law_ties_of_pairs", .glo "_law_wishes_by", .glo "_law_paired_part", .glo "_law_core_part", .glo "_law_family_part", .glo "_law_part"]
def hFa2 : List He.Fa := [.glo "_law_net_of", .glo "_law_scene", .glo "_law_free", .glo "_law_near", .glo "_law_is_ready", .glo "_law_flip", .glo "_law_reached", .glo "_law_setting", .glo "_law_far", .glo "_law_net", .glo "_law_places", .glo "_law_turned_stuck", .glo "_law_class_right", .glo "_law_kite", .glo "_law_width_of", .glo "_law_widths_right", .glo "_law_far_in_turn", .glo "law", .keep "is_spelt", .keep "are_spelt"]
def hFa3 : List He.Fa := [.keep "is_rising", .keep "are_rising_words", .keep "are_unlike_words", .keep "is_tie", .keep "are_ties", .keep "are_wishes", .keep "near_by", .keep "check_net", .keep "are_lamps_of", .keep "check_setting", .keep "check_set", .keep "lit_at", .keep "is_ready_in", .keep "ready_in", .keep "flipped", .keep "layers_from", .keep "class_of", .keep "by_deeds", .keep "farthest", .keep "is_farthest"]
def hFa4 : List He.Fa := [.keep "width", .keep "_law_purse", .keep "_law_mixed", .keep "_law_draw", .keep "_law_purses", .keep "_law_one_of", .keep "_law_shuffled", .keep "_law_same", .keep "_law_exact", .keep "_law_word", .keep "_law_words", .keep "_law_pairs_drawn", .keep "_law_ties_of_pairs", .keep "_law_wishes_by", .keep "_law_paired_part", .keep "_law_core_part", .keep "_law_family_part", .keep "_law_part", .keep "_law_net_of", .keep "_law_scene"]
def hFa5 : List He.Fa := [.keep "_law_free", .keep "_law_near", .keep "_law_is_ready", .keep "_law_flip", .keep "_law_reached", .keep "_law_setting", .keep "_law_far", .keep "_law_net", .keep "_law_places", .keep "_law_turned_stuck", .keep "_law_class_right", .keep "_law_kite", .keep "_law_width_of", .keep "_law_widths_right", .keep "_law_far_in_turn", .keep "law", .free "len", .free "set", .free "list", .free "tuple"]
def hFa6 : List He.Fa := [.free "dict", .free "int", .free "str", .free "bool", .free "sum", .free "max", .free "min", .free "sorted", .free "range", .free "zip", .free "all", .free "any", .free "isinstance", .int "LONGEST" 8, .glo "WISHES", .glo "Net", .cls "Net", .mkr "Net", .meth "Net" "__init__", .meth "Net" "__eq__"]
def hFa7 : List He.Fa := [.noat "Net" "bulbs", .noat "Net" "edges", .noat "Net" "wants", .noat "Net" "near", .noat "Net" "free", .noat "Net" "known"]
def hFa : List He.Fa := (hFa0 : List He.Fa) ++ (hFa1 : List He.Fa) ++ (hFa2 : List He.Fa) ++ (hFa3 : List He.Fa) ++ (hFa4 : List He.Fa) ++ (hFa5 : List He.Fa) ++ (hFa6 : List He.Fa) ++ (hFa7 : List He.Fa)
def hNm0 : List PySem.Str := ["LampError", "InvalidLamps", "InvalidTies", "InvalidWishes", "InvalidNet", "InvalidSetting", "LONGEST", "is_spelt", "are_spelt", "is_rising", "are_rising_words", "are_unlike_words", "WISHES", "Net", "is_tie", "are_ties", "are_wishes", "near_by", "check_net", "are_lamps_of"]
def hNm1 : List PySem.Str := ["check_setting", "check_set", "lit_at", "is_ready_in", "ready_in", "flipped", "layers_from", "class_of", "by_deeds", "farthest", "is_farthest", "width", "_law_purse", "_law_mixed", "_law_draw", "_law_purses", "_law_one_of", "_law_shuffled", "_law_same", "_law_exact"]
def hNm2 : List PySem.Str := ["_law_word", "_law_words", "_law_pairs_drawn", "_law_ties_of_pairs", "_law_wishes_by", "_law_paired_part", "_law_core_part", "_law_family_part", "_law_part", "_law_net_of", "_law_scene", "_law_free", "_law_near", "_law_is_ready", "_law_flip", "_law_reached", "_law_setting", "_law_far", "_law_net", "_law_places"]
def hNm3 : List PySem.Str := ["_law_turned_stuck", "_law_class_right", "_law_kite", "_law_width_of", "_law_widths_right", "_law_far_in_turn"]
def hNm : List PySem.Str := (hNm0 : List PySem.Str) ++ (hNm1 : List PySem.Str) ++ (hNm2 : List PySem.Str) ++ (hNm3 : List PySem.Str)
def hEx (K : PySem.W.Frag) : Bool := He.tupB K "WISHES" [.str "odd", .str "even", .str "stuck"] && (He.eqO (PySem.W.findIn K (.ref (He.ga K "Net")) "__ne__") (some (some (.builtin "object.__ne__"))) && (decide (PySem.W.subIn K (.ref (He.ga K "Net")) (.type "object") = some true) &&
  (He.eqO (PySem.W.findIn K (.ref (He.ga K "Net")) "__class__") (some (some (.builtin "object.__class__"))) && (He.eqO (PySem.W.specialIn K (.builtin "object.__class__") "__get__") (some (some (.builtin "getset_descriptor.__get__"))) && (decide (PySem.W.takesIn K (.builtin "object.__class__") = some true) &&
  (decide (PySem.W.mroIn K (He.ga K "Net") (.type "object") = some true) && decide (PySem.W.kitOne K (.ref (He.ga K "Net")) (.ref (He.ga K "Net")) = some true)))))))
abbrev hR : PySem.W.OpenRow := PySem.W.OpenLaw.row PySem.Challenge.rw_oddlamps_k41_whole_classes_layers_and_fa
def hk : PySem.W.Hook where
  α := He.Al × Bool
  obs := fun s => (He.obsG 5 hFa hFn s.heap.get?, hEx (He.frG s.heap.get? (He.asG s.heap.get? 5)))
  val := fun _ => (He.valE hFn, true)
  says := fun _ h => ∃ K : PySem.W.Frag, K.In h ∧ He.SaysE hFa hFn K ∧ hEx K = true
  of := fun _ _ e => ⟨_, He.frG_in, congrArg Prod.fst e, congrArg Prod.snd e⟩
  keeps := fun _ _ _ ⟨K, hK, c⟩ k => ⟨K, PySem.W.Frag.In.keeps hK k, c⟩
def hob (s : PySem.W.SharedT) : He.Al × Bool := (He.obsG 5 hFa hFn (HandSHeadRun.getT s), hEx (He.frG (HandSHeadRun.getT s) (He.asG (HandSHeadRun.getT s) 5)))
theorem hob_eq (s : PySem.W.SharedT) : hob s = hk.obs s.abs := by
  have e : HandSHeadRun.getT s = s.abs.heap.get? := funext (HandSHeadRun.getT_eq s)
  unfold hob
  rw [e] <;> rfl
section
variable {K : PySem.W.Frag} {h : Heap} {mg : Str → Option Value}
theorem top1_of {x : String} {st : Stmt} (X : K.In h) (G : h.Ns mainGlobals mg) (c : He.SaysE hFa hFn K) (i j k : Nat) (hd : hFn[i]? = some ⟨(Str.ofString x, none), Str.ofString x, Str.ofString x, defArgs st, defBody st, defScope st⟩) (hg : hFa[j]? = some (.glo (Str.ofString x))) (hk : hFa[k]? = some (.keep (Str.ofString x))) : Top1 K mg x st := by
  obtain ⟨oc, od, osl, kV, doc, pm, an, cdv, ct, l, cc⟩ := c.def_ i hd
  exact ⟨_, _, fun_mk (st := st) l cc (He.keep_ok (c.fact k hk)), He.glo_ok X G (c.fact j hg)⟩
theorem mk_env (X : K.In h) (G : h.Ns mainGlobals mg) (c : He.SaysE hFa hFn K) (e : hEx K = true) : Env K mg (He.ga K "Net") := by
  unfold hEx at e
  obtain ⟨e1, e⟩ := He.ba e
  obtain ⟨e2, e⟩ := He.ba e
  obtain ⟨e3, e⟩ := He.ba e
  obtain ⟨e4, e⟩ := He.ba e
  obtain ⟨e5, e⟩ := He.ba e
  obtain ⟨e6, e⟩ := He.ba e
  obtain ⟨e7, e8⟩ := He.ba e
  have mi := He.meth_ok (c.fact 138 (f := .meth "Net" "__init__") rfl)
  have me := He.meth_ok (c.fact 139 (f := .meth "Net" "__eq__") rfl)
  refine { t_is_spelt := top1_of X G c 0 0 58 rfl rfl rfl, t_are_spelt := top1_of X G c 1 1 59 rfl rfl rfl, t_is_rising := top1_of X G c 2 2 60 rfl rfl rfl, t_are_rising_words := top1_of X G c 3 3 61 rfl rfl rfl, t_are_unlike_words := top1_of X G c 4 4 62 rfl rfl rfl, t_is_tie := top1_of X G c 5 5 63 rfl rfl rfl, t_are_ties := top1_of X G c 6 6 64 rfl rfl rfl, t_are_wishes := top1_of X G c 7 7 65 rfl rfl rfl, t_near_by := top1_of X G c 8 8 66 rfl rfl rfl, t_check_net := top1_of X G c 9 9 67 rfl rfl rfl, t_are_lamps_of := top1_of X G c 10 10 68 rfl rfl rfl, t_check_setting := top1_of X G c 11 11 69 rfl rfl rfl, t_check_set := top1_of X G c 12 12 70 rfl rfl rfl, t_lit_at := top1_of X G c 13 13 71 rfl rfl rfl, t_is_ready_in := top1_of X G c 14 14 72 rfl rfl rfl, t_ready_in := top1_of X G c 15 15 73 rfl rfl rfl, t_flipped := top1_of X G c 16 16 74 rfl rfl rfl, t_layers_from := top1_of X G c 17 17 75 rfl rfl rfl, t_class_of := top1_of X G c 18 18 76 rfl rfl rfl, t_by_deeds := top1_of X G c 19 19 77 rfl rfl rfl, t_farthest := top1_of X G c 20 20 78 rfl rfl rfl, t_is_farthest := top1_of X G c 21 21 79 rfl rfl rfl, t_width := top1_of X G c 22 22 80 rfl rfl rfl, t_l_purse := top1_of X G c 23 23 81 rfl rfl rfl, t_l_mixed := top1_of X G c 24 24 82 rfl rfl rfl, t_l_draw := top1_of X G c 25 25 83 rfl rfl rfl, t_l_purses := top1_of X G c 26 26 84 rfl rfl rfl, t_l_one_of := top1_of X G c 27 27 85 rfl rfl rfl, t_l_shuffled := top1_of X G c 28 28 86 rfl rfl rfl, t_l_same := top1_of X G c 29 29 87 rfl rfl rfl, t_l_exact := top1_of X G c 30 30 88 rfl rfl rfl, t_l_word := top1_of X G c 31 31 89 rfl rfl rfl, t_l_words := top1_of X G c 32 32 90 rfl rfl rfl, t_l_pairs_drawn := top1_of X G c 33 33 91 rfl rfl rfl, t_l_ties_of_pairs := top1_of X G c 34 34 92 rfl rfl rfl, t_l_wishes_by := top1_of X G c 35 35 93 rfl rfl rfl, t_l_paired_part := top1_of X G c 36 36 94 rfl rfl rfl, t_l_core_part := top1_of X G c 37 37 95 rfl rfl rfl, t_l_family_part := top1_of X G c 38 38 96 rfl rfl rfl, t_l_part := top1_of X G c 39 39 97 rfl rfl rfl, t_l_net_of := top1_of X G c 40 40 98 rfl rfl rfl, t_l_scene := top1_of X G c 41 41 99 rfl rfl rfl, t_l_free := top1_of X G c 42 42 100 rfl rfl rfl, t_l_near := top1_of X G c 43 43 101 rfl rfl rfl, t_l_is_ready := top1_of X G c 44 44 102 rfl rfl rfl, t_l_flip := top1_of X G c 45 45 103 rfl rfl rfl, t_l_reached := top1_of X G c 46 46 104 rfl rfl rfl, t_l_setting := top1_of X G c 47 47 105 rfl rfl rfl, t_l_far := top1_of X G c 48 48 106 rfl rfl rfl, t_l_net := top1_of X G c 49 49 107 rfl rfl rfl, t_l_places := top1_of X G c 50 50 108 rfl rfl rfl, t_l_turned_stuck := top1_of X G c 51 51 109 rfl rfl rfl, t_l_class_right := top1_of X G c 52 52 110 rfl rfl rfl, t_l_kite := top1_of X G c 53 53 111 rfl rfl rfl, t_l_width_of := top1_of X G c 54 54 112 rfl rfl rfl, t_l_widths_right := top1_of X G c 55 55 113 rfl rfl rfl, t_l_far_in_turn := top1_of X G c 56 56 114 rfl rfl rfl, t_law := top1_of X G c 57 57 115 rfl rfl rfl, n_len := He.free_ok X G (c.fact 116 rfl), n_set := He.free_ok X G (c.fact 117 rfl), n_list := He.free_ok X G (c.fact 118 rfl), n_tuple := He.free_ok X G (c.fact 119 rfl), n_dict := He.free_ok X G (c.fact 120 rfl), n_int := He.free_ok X G (c.fact 121 rfl), n_str := He.free_ok X G (c.fact 122 rfl), n_bool := He.free_ok X G (c.fact 123 rfl), n_sum := He.free_ok X G (c.fact 124 rfl), n_max := He.free_ok X G (c.fact 125 rfl), n_min := He.free_ok X G (c.fact 126 rfl), n_sorted := He.free_ok X G (c.fact 127 rfl), n_range := He.free_ok X G (c.fact 128 rfl), n_zip := He.free_ok X G (c.fact 129 rfl), n_all := He.free_ok X G (c.fact 130 rfl), n_any := He.free_ok X G (c.fact 131 rfl), n_isinstance := He.free_ok X G (c.fact 132 rfl), f_bulbs := He.noat_ok (c.fact 140 rfl), f_edges := He.noat_ok (c.fact 141 rfl), f_wants := He.noat_ok (c.fact 142 rfl), f_near := He.noat_ok (c.fact 143 rfl), f_free := He.noat_ok (c.fact 144 rfl), f_known := He.noat_ok (c.fact 145 rfl),  x_LONGEST := He.int_ok X G (c.fact 133 rfl), x_WISHES := ⟨_, He.glo_ok X G (c.fact 134 rfl), fun H => He.tupB_ok e1 H⟩, mgN := He.glo_ok X G (c.fact 135 rfl), isN := ⟨He.cls_ok (c.fact 136 rfl), He.eqO_ok e4, He.eqO_ok e5, of_decide_eq_true e6, of_decide_eq_true e7, of_decide_eq_true e8⟩, x_init := ?_, x_eq := ?_, ne := He.eqO_ok e2, ob := of_decide_eq_true e3 }
  · obtain ⟨oc, od, osl, kV, doc, pm, an, cdv, ct, l, cc⟩ := c.def_ 58 (d := ⟨("Net", some "__init__"), "__init__", "Net.__init__", defArgs s_net_init, defBody s_net_init, defScope s_net_init⟩) rfl
    exact ⟨_, _, fun_mk (st := s_net_init) l cc mi.kp, He.mkr_ok (c.fact 137 rfl)⟩
  · obtain ⟨oc, od, osl, kV, doc, pm, an, cdv, ct, l, cc⟩ := c.def_ 59 (d := ⟨("Net", some "__eq__"), "__eq__", "Net.__eq__", defArgs s_net_eq, defBody s_net_eq, defScope s_net_eq⟩) rfl
    exact ⟨_, _, fun_mk (st := s_net_eq) l cc me.kp, me.at_, me.fn⟩
end
end K41
namespace K41
open PySem PySem.Spec PyProof.Rows L2
theorem hrun (w : World) : HandSHeadRun.RunEq hR (PySem.W.view hR.prog [72]) hk hob 6000 hNm w := by
  intro os
  kernel_rfl
end K41
set_option maxHeartbeats 4000000
namespace K41
open PySem PySem.Spec PyProof.Rows L2
section
variable {X : Cx} {C : Addr}
theorem pe_LONGEST {pos : Pos} (V : Env X.K X.mg C) (hg : Gl X "LONGEST" := by rfl) : PE X (.Name "LONGEST" pos) (tC (.int 8)) := by
  obtain ⟨t, h⟩ := V.x_LONGEST
  exact pe_glob hg h ⟨t, rfl⟩
theorem pe_WISHES {pos : Pos} (V : Env X.K X.mg C) (hg : Gl X "WISHES" := by rfl) : PE X (.Name "WISHES" pos) (fun _ H Q => ∀ a, (∀ H', SqT X.K H' a [.str "odd", .str "even", .str "stuck"]) → Q (.ref a) H) := by
  obtain ⟨a, h, g⟩ := V.x_WISHES
  have q : PE X (.Name "WISHES" pos) (tC (.ref a)) := pe_glob hg h rfl
  exact ⟨fun pins s σ H Q I z => q.run pins s σ H Q I (z a g)⟩
end
/-! ### truths of lists -/
theorem all_true {α : Type} (xs : List α) : (xs.map fun _ => true).all id = true := by
  rw [List.all_map]
  exact List.all_eq_true.mpr fun _ _ => rfl
theorem da_bools {α : Type} {K : PySem.W.Frag} {H : Hp} {f : α → Bool} : ∀ {xs : List α} {ys : List V}, DpAll K H ys (xs.map fun a => .bool (f a)) → ys = (xs.map f).map V.bl
  | [], ys, h => by rw [da_nil h]; rfl
  | w :: ws, ys, h => by
    obtain ⟨v, us, rfl, h1, h2⟩ := da_cons h
    rw [dp_bl h1, da_bools h2]
    rfl
theorem filter_yes {α : Type} (xs : List α) : xs.filter (fun _ => true) = xs := List.filter_eq_self.mpr fun _ _ => rfl
theorem if_yes {b : Bool} {A B : Prop} (h : b = true) (a : A) : (if b = true then A else B) := by
  rw [if_pos h]
  exact a
theorem if_no {b : Bool} {A B : Prop} (h : b = false) (x : B) : (if b = true then A else B) := by
  rw [if_neg (by rw [h]; decide)]
  exact x
section
variable {J : It} {n : Nat} {G : Hp → Prop} {Y : Nat → Hp → V → Hp → Prop} {K : PySem.W.Frag}
/-- without a test: each item gives f -/
theorem lcM {α : Type} {items : List α} (w : Walk J items.length G Y) {g : TG} {te : TE} {vs : List Nat} {σ : L2.St} {H1 : Hp} {D : Addr} {Qd : Hp → Prop} {S T : List Addr} (Z : Nat → Hp → Prop) (f : α → PyData)
    (hD : H1 D = none) (hT : ∀ b ∈ T, b ∈ S) (hS : Live S H1) (hn : items.length ≤ 100000) (hG : ∀ H, Kp T H1 H → G H) (hZ0 : Z 0 H1) (hZ : ∀ i H o, Z i H → Z i (upd H D o))
    (hs : ∀ i a x H H' (Yes : VK), items[i]? = some a → Kp T H1 H → Live (D :: S) H → Z i H → Y i H x H' → (∀ y H4, Kp T H H4 → Z (i + 1) H4 → Dp K (hid (D :: S) H4) y (f a) → Yes y H4) →
      g x (wipe σ vs) H' fun σ2 H2 => wipe σ2 vs = wipe σ vs ∧ te σ2 H2 Yes)
    (hd : ∀ H ys, Kp T H1 H → Live S H → Z items.length H → H D = some (.lst ys) → ys.length ≤ items.length → DpAll K (hid (D :: S) H) ys (items.map f) → Dp K (hid S H) (.ref D) (.list (items.map f)) → Qd H) :
    ∃ W : Nat → Nat → Hp → Prop, (∃ m, W 0 m (upd H1 D (.lst []))) ∧ ∀ i m H, W i m H →
      (J.stop i H ∧ Qd H) ∨ (J.go i H ∧ ∃ Nx : Hp → Prop, (∀ H', Nx H' → ∃ m', m' < m ∧ W (i + 1) m' H') ∧ ∀ x H', J.yld i H x H' → g x (wipe σ vs) H' fun σ2 H2 => wipe σ2 vs = wipe σ vs ∧ tYes σ2 H2 fun b H3 =>
        if b = true then te σ2 H3 fun y H4 => ∃ acc, H4 D = some (.lst acc) ∧ acc.length < sizeLine ∧ Nx (upd H4 D (.lst (acc ++ [y]))) else Nx H3) := by
  refine lcF (K := K) w Z (fun _ => true) f hD hT hS hn hG hZ0 hZ (fun i a x H H' Yes No hi kp hL z y yes no => hs i a x H H' Yes hi kp hL z y (fun y H4 k z d => yes y H4 k z rfl d)) ?_
  intro H ys kp hL z hl hle da dp
  rw [filter_yes] at da dp
  exact hd H ys kp hL z hl hle da dp
theorem lcRM (w : Walk J n G Y) {g : TG} {te : TE} {vs : List Nat} {σ : L2.St} {H1 : Hp} {D : Addr} {Qd : Hp → Prop} {S T : List Addr} (Z : Nat → Hp → Prop) (R : Nat → List PyData → Prop)
    (hD : H1 D = none) (hT : ∀ b ∈ T, b ∈ S) (hS : Live S H1) (hn : n ≤ 100000) (hG : ∀ H, Kp T H1 H → G H) (h0 : R 0 []) (hZ0 : Z 0 H1) (hZ : ∀ i H o, Z i H → Z i (upd H D o))
    (hs : ∀ i x H H' ds (Yes : VK), i < n → Kp T H1 H → Live (D :: S) H → Z i H → R i ds → Y i H x H' → (∀ y H4 d, Kp T H H4 → Z (i + 1) H4 → Dp K (hid (D :: S) H4) y d → R (i + 1) (ds ++ [d]) → Yes y H4) →
      g x (wipe σ vs) H' fun σ2 H2 => wipe σ2 vs = wipe σ vs ∧ te σ2 H2 Yes)
    (hd : ∀ H ys ds, Kp T H1 H → Live S H → Z n H → R n ds → H D = some (.lst ys) → ys.length ≤ n → DpAll K (hid (D :: S) H) ys ds → Dp K (hid S H) (.ref D) (.list ds) → Qd H) :
    ∃ W : Nat → Nat → Hp → Prop, (∃ m, W 0 m (upd H1 D (.lst []))) ∧ ∀ i m H, W i m H →
      (J.stop i H ∧ Qd H) ∨ (J.go i H ∧ ∃ Nx : Hp → Prop, (∀ H', Nx H' → ∃ m', m' < m ∧ W (i + 1) m' H') ∧ ∀ x H', J.yld i H x H' → g x (wipe σ vs) H' fun σ2 H2 => wipe σ2 vs = wipe σ vs ∧ tYes σ2 H2 fun b H3 =>
        if b = true then te σ2 H3 fun y H4 => ∃ acc, H4 D = some (.lst acc) ∧ acc.length < sizeLine ∧ Nx (upd H4 D (.lst (acc ++ [y]))) else Nx H3) :=
  lcR (K := K) w Z R hD hT hS hn hG h0 hZ0 hZ (fun i x H H' ds Yes No hi kp hL z r y yes no => hs i x H H' ds Yes hi kp hL z r y yes) hd
/-- without a test, nothing drawn: each item gives f -/
theorem lcS {α : Type} {items : List α} (w : Walk J items.length G Y) {g : TG} {te : TE} {vs : List Nat} {σ : L2.St} {H1 : Hp} {D : Addr} {Qd : Hp → Prop} {S : List Addr} (f : α → PyData)
    (hD : H1 D = none) (hS : Live S H1) (hn : items.length ≤ 100000) (hG : ∀ H, Kp [] H1 H → G H)
    (hs : ∀ i a x H H' (Yes : VK), items[i]? = some a → Kp [] H1 H → Live (D :: S) H → Y i H x H' → (∀ y H4, Kp [] H H4 → Dp K (hid (D :: S) H4) y (f a) → Yes y H4) →
      g x (wipe σ vs) H' fun σ2 H2 => wipe σ2 vs = wipe σ vs ∧ te σ2 H2 Yes)
    (hd : ∀ H ys, Kp [] H1 H → Live S H → H D = some (.lst ys) → ys.length ≤ items.length → DpAll K (hid (D :: S) H) ys (items.map f) → Dp K (hid S H) (.ref D) (.list (items.map f)) → Qd H) :
    ∃ W : Nat → Nat → Hp → Prop, (∃ m, W 0 m (upd H1 D (.lst []))) ∧ ∀ i m H, W i m H →
      (J.stop i H ∧ Qd H) ∨ (J.go i H ∧ ∃ Nx : Hp → Prop, (∀ H', Nx H' → ∃ m', m' < m ∧ W (i + 1) m' H') ∧ ∀ x H', J.yld i H x H' → g x (wipe σ vs) H' fun σ2 H2 => wipe σ2 vs = wipe σ vs ∧ tYes σ2 H2 fun b H3 =>
        if b = true then te σ2 H3 fun y H4 => ∃ acc, H4 D = some (.lst acc) ∧ acc.length < sizeLine ∧ Nx (upd H4 D (.lst (acc ++ [y]))) else Nx H3) :=
  lcM (K := K) (T := []) w (fun _ _ => True) f hD (by simp) hS hn hG trivial (fun _ _ _ _ => trivial) (fun i a x H H' Yes hi kp hL _ y yes => hs i a x H H' Yes hi kp hL y (fun y H4 k d => yes y H4 k trivial d)) (fun H ys kp hL _ hl hle da dp => hd H ys kp hL hl hle da dp)
/-- with a test, nothing drawn -/
theorem lcT {α : Type} {items : List α} (w : Walk J items.length G Y) {g : TG} {tt : TT} {te : TE} {vs : List Nat} {σ : L2.St} {H1 : Hp} {D : Addr} {Qd : Hp → Prop} {S : List Addr} (q : α → Bool) (f : α → PyData)
    (hD : H1 D = none) (hS : Live S H1) (hn : items.length ≤ 100000) (hG : ∀ H, Kp [] H1 H → G H)
    (hs : ∀ i a x H H' (Yes : VK) (No : Hp → Prop), items[i]? = some a → Kp [] H1 H → Live (D :: S) H → Y i H x H' → (∀ y H4, Kp [] H H4 → q a = true → Dp K (hid (D :: S) H4) y (f a) → Yes y H4) → (∀ H3, Kp [] H H3 → q a = false → No H3) →
      g x (wipe σ vs) H' fun σ2 H2 => wipe σ2 vs = wipe σ vs ∧ tt σ2 H2 fun b H3 => if b = true then te σ2 H3 Yes else No H3)
    (hd : ∀ H ys, Kp [] H1 H → Live S H → H D = some (.lst ys) → ys.length ≤ items.length → DpAll K (hid (D :: S) H) ys ((items.filter q).map f) → Dp K (hid S H) (.ref D) (.list ((items.filter q).map f)) → Qd H) :
    ∃ W : Nat → Nat → Hp → Prop, (∃ m, W 0 m (upd H1 D (.lst []))) ∧ ∀ i m H, W i m H →
      (J.stop i H ∧ Qd H) ∨ (J.go i H ∧ ∃ Nx : Hp → Prop, (∀ H', Nx H' → ∃ m', m' < m ∧ W (i + 1) m' H') ∧ ∀ x H', J.yld i H x H' → g x (wipe σ vs) H' fun σ2 H2 => wipe σ2 vs = wipe σ vs ∧ tt σ2 H2 fun b H3 =>
        if b = true then te σ2 H3 fun y H4 => ∃ acc, H4 D = some (.lst acc) ∧ acc.length < sizeLine ∧ Nx (upd H4 D (.lst (acc ++ [y]))) else Nx H3) :=
  lcF (K := K) (T := []) w (fun _ _ => True) q f hD (by simp) hS hn hG trivial (fun _ _ _ _ => trivial) (fun i a x H H' Yes No hi kp hL _ y yes no => hs i a x H H' Yes No hi kp hL y (fun y H4 k h d => yes y H4 k trivial h d) (fun H3 k h => no H3 k trivial h)) (fun H ys kp hL _ hl hle da dp => hd H ys kp hL hl hle da dp)
end
/-- the walked list's items are data -/
theorem yat_item {α : Type} {f : α → PyData} {K : PySem.W.Frag} {H H' G : Hp} {xs : List V} {items : List α} {i : Nat} {a : α} {x : V} (da : DpAll K G xs (items.map f)) (hi : items[i]? = some a) (y : YAt xs i H x H') : H' = H ∧ Dp K G x (f a) := by
  obtain ⟨e, y⟩ := y
  obtain ⟨v, hv, d⟩ := da_get da hi
  rw [hv] at y
  cases y
  exact ⟨e, d⟩
section
variable {K : PySem.W.Frag} {a : Addr}
theorem walkD {α : Type} {G0 : Hp} {xs : List V} {items : List α} {f : α → PyData} (da : DpAll K G0 xs (items.map f)) : Walk (Itl K a) items.length (fun H => SqL K H a xs) (fun i H x H' => H' = H ∧ ∀ it, items[i]? = some it → Dp K G0 x (f it)) := by
  rw [← da_len da]
  exact walk_list.mono (fun _ h => h) (fun i H x H' _ _ y => ⟨y.1, fun it hit => (yat_item da hit y).2⟩)
theorem walkW {ws : List Str} : Walk (Itl K a) ws.length (fun H => SqL K H a (ws.map V.str)) (fun i H x H' => H' = H ∧ ∀ z, ws[i]? = some z → x = .str z) := by
  have e : ws.length = (ws.map V.str).length := (List.length_map ..).symm
  rw [e]
  refine walk_list.mono (fun _ h => h) (fun i H x H' _ _ y => ⟨y.1, fun it hit => ?_⟩)
  have q := y.2
  rw [List.getElem?_map, hit] at q
  exact (Option.some.inj q).symm
theorem walkI {ws : List Int} : Walk (Itl K a) ws.length (fun H => SqL K H a (ws.map V.int)) (fun i H x H' => H' = H ∧ ∀ z, ws[i]? = some z → x = .int z) := by
  have e : ws.length = (ws.map V.int).length := (List.length_map ..).symm
  rw [e]
  refine walk_list.mono (fun _ h => h) (fun i H x H' _ _ y => ⟨y.1, fun it hit => ?_⟩)
  have q := y.2
  rw [List.getElem?_map, hit] at q
  exact (Option.some.inj q).symm
theorem walkWT {ws : List Str} : Walk (Itt K a) ws.length (fun H => SqT K H a (ws.map V.str)) (fun i H x H' => H' = H ∧ ∀ z, ws[i]? = some z → x = .str z) := by
  have e : ws.length = (ws.map V.str).length := (List.length_map ..).symm
  rw [e]
  refine walk_tup.mono (fun _ h => h) (fun i H x H' _ _ y => ⟨y.1, fun it hit => ?_⟩)
  have q := y.2
  rw [List.getElem?_map, hit] at q
  exact (Option.some.inj q).symm
theorem walkR {lo : Int} {n : Nat} : Walk (Itr lo n) (List.range n).length (fun _ => True) (fun i H x H' => H' = H ∧ x = .int (lo + (i : Int))) := by
  rw [List.length_range]
  exact walk_range
end
theorem range_at {n i a : Nat} (h : (List.range n)[i]? = some a) : a = i ∧ i < n := by
  obtain ⟨hi, e⟩ := List.getElem?_eq_some_iff.mp h
  rw [List.getElem_range] at e
  rw [List.length_range] at hi
  exact ⟨e.symm, hi⟩
/-! ### words -/
abbrev Lt (x y : Str) : Prop := x.cps.toList < y.cps.toList

def Word (x : Str) : Prop := 0 < x.length ∧ x.length ≤ 8 ∧ ∀ c ∈ x.cps.toList, 97 ≤ c ∧ c ≤ 122
end K41
namespace K41
open PySem PySem.Spec PyProof.Rows L2
theorem at0 {α : Type} {x : α} {xs : List α} : atI (x :: xs) 0 = some x := atI_nat (j := 0) rfl
theorem at1 {α : Type} {x y : α} {xs : List α} : atI (x :: y :: xs) 1 = some y := atI_nat (j := 1) rfl
theorem at2 {α : Type} {x y z : α} {xs : List α} : atI (x :: y :: z :: xs) 2 = some z := atI_nat (j := 2) rfl
/-! ### the rules with the written part named (within a comprehension the frame's own word for it is not to be named) -/
section
variable {X : Cx} {K : PySem.W.Frag}
theorem K_in_seq (h : X.K = K) : OpR X (compareOp .In) (rIn K false) := by subst h; exact op_in_seq
theorem K_notIn_seq (h : X.K = K) : OpR X (compareOp .NotIn) (rIn K true) := by subst h; exact op_notIn_seq
theorem K_inD (h : X.K = K) (hu : X.A.units + 65 < cLine) : OpR X (compareOp .In) (rInD K) := by subst h; exact op_inD hu
theorem K_notInD (h : X.K = K) (hu : X.A.units + 65 < cLine) : OpR X (compareOp .NotIn) (rNotInD K) := by subst h; exact op_notInD hu
theorem K_eqD (h : X.K = K) (hu : X.A.units + 65 < cLine) : OpR X (compareOp .Eq) (rEqD K) := by subst h; exact op_eqD (by omega)
theorem K_neD (h : X.K = K) (hu : X.A.units + 65 < cLine) : OpR X (compareOp .NotEq) (rNeD K) := by subst h; exact op_neD (by omega)
theorem K_ixL (h : X.K = K) : IxR X (rIxL K) := by subst h; exact ix_list
theorem K_ixT (h : X.K = K) : IxR X (rIxT K) := by subst h; exact ix_tup
theorem K_slL (h : X.K = K) : SlR X (rSlL K) := by subst h; exact sl_list
theorem K_count (h : X.K = K) : MtR X "list.count" (rCntI K) := by subst h; exact mt_lcount
def rLenQ (K : PySem.W.Frag) : List V → Hp → VK → Prop := fun xs H Q => ∃ p ys, xs = [.ref p] ∧ (SqL K H p ys ∨ SqT K H p ys) ∧ Q (.int ys.length) H
theorem K_len (h : X.K = K) : CallR X (.builtin "len") (rLenQ K) := by subst h; exact call_len_seq
theorem K_isi (h : X.K = K) : CallR X (.builtin "isinstance") (rIsi K) := by subst h; exact call_isi
theorem K_isiT (h : X.K = K) : CallR X (.builtin "isinstance") (rIsiT K) := by subst h; exact call_isiT
theorem K_all (h : X.K = K) (hc : X.calm = true) : CallR X (.builtin "all") (rAll K) := by subst h; exact cr_all hc
theorem K_any (h : X.K = K) (hc : X.calm = true) : CallR X (.builtin "any") (rAny K) := by subst h; exact cr_any hc
theorem K_sum (h : X.K = K) (hc : X.calm = true) : CallR X (.builtin "sum") (rSum K) := by subst h; exact cr_sum hc
structure RSort (K : PySem.W.Frag) (xs : List V) (H : Hp) (Q : VK) : Prop where
  go : rSortA K xs H Q
theorem K_sort (h : X.K = K) (hu : X.A.units + 100 < cLine) : CallR X (.builtin "sorted") (RSort K) := by
  subst h
  exact fun pins s σ H xs us Q I r h => cr_sortA hu pins s σ H xs us Q I r h.go
def rListQ (K : PySem.W.Frag) : List V → Hp → VK → Prop := fun xs H Q => ∃ p ys, xs = [.ref p] ∧ (SqL K H p ys ∨ SqT K H p ys) ∧ ∀ l, H l = none → Q (.ref l) (upd H l (.lst ys))
theorem K_list (h : X.K = K) : CallR X (.type "list") (rListQ K) := by subst h; exact call_list_of
def rTupQ (K : PySem.W.Frag) : List V → Hp → VK → Prop := fun xs H Q => ∃ p ys, xs = [.ref p] ∧ ((SqL K H p ys ∧ ∀ l, H l = none → Q (.ref l) (upd H l (.tup ys))) ∨ SqT K H p ys ∧ Q (.ref p) H)
theorem K_tuple (h : X.K = K) : CallR X (.type "tuple") (rTupQ K) := by subst h; exact call_tuple_of
def rDictQ (K : PySem.W.Frag) : List V → Hp → VK → Prop := fun xs H Q => ∃ a ps kvs, xs = [.ref a] ∧ SqL K H a (ps.map V.ref) ∧ Paired (fun p kv => SqT K H p [kV kv.1, kv.2]) ps kvs ∧ ∀ p, H p = none → Q (.ref p) (upd H p (.dK (mergeK [] kvs)))
theorem K_dict (h : X.K = K) (hc : X.calm = true) : CallR X (.type "dict") (rDictQ K) := by subst h; exact call_dictP hc
theorem K_dictT (h : X.K = K) (hc : X.calm = true) (hu : X.A.units + 10 < cLine) : CallR X (.type "dict") (rDictPT K) := by subst h; exact call_dictPT hc hu
theorem K_max (h : X.K = K) (hc : X.calm = true) : CallR X (.builtin "max") (rMax K) := by subst h; exact cr_max hc
theorem K_min (h : X.K = K) (hc : X.calm = true) : CallR X (.builtin "min") (rMin K) := by subst h; exact cr_min hc
theorem K_fld {e : Expr} {f : Str} {pos : Pos} {ta : TE} (h : X.K = K) (he : PE X e ta) (hb : attributeBase e f X.env (eval e X.env) = eval e X.env) : PE X (e.Attribute f pos) (tFld K ta f) := by subst h; exact pe_fld he hb
theorem K_pil {tg l : Expr} {tl : TE} (h : X.K = K) (hl : PE X l tl) : PI X tg l (iList K tl) := by subst h; exact pi_list hl
theorem K_pit {tg l : Expr} {tl : TE} (h : X.K = K) (hl : PE X l tl) : PI X tg l (iTup K tl) := by subst h; exact pi_tup hl
theorem K_step {e n : Expr} {te tn : TE} {p3 pos : Pos} (h : X.K = K) (he : PE X e te) (hn : PE X n tn)
    (hs : ∀ (a b : Addr), subscripted (Expr.Slice none none (some n) p3) false (Value.ref a) (Value.ref b) = operate [Value.ref a, Value.ref b] (getItem (Value.ref a) (Value.ref b)) := by intros; rfl) : PE X (e.Subscript (Expr.Slice none none (some n) p3) pos) (tStepL K te tn) := by
  subst h; exact pe_stepL he hn hs
theorem K_lenW {e : Expr} {ta : TE} {p p2 q pos : Pos} (h : X.K = K) (hc : X.calm = true) (hg : Gl X "len") (hm : X.mg "len" = none) (hg2 : Gl X "set") (hm2 : X.mg "set" = none) (ha : PE X e ta)
    (na : starEach [e] X.env = (false, eval e X.env) :: starEach [] X.env := by rfl) : PE X (.Call (.Name "len" p) [.Call (.Name "set" p2) [e] [] q] [] pos) (tLenSetW K ta) := by subst h; exact pe_lenSetW hc hg hm hg2 hm2 ha na
theorem K_lenQ {e : Expr} {ta : TE} {p p2 q pos : Pos} (h : X.K = K) (hc : X.calm = true) (hu : X.A.units + 20 < cLine) (hg : Gl X "len") (hm : X.mg "len" = none) (hg2 : Gl X "set") (hm2 : X.mg "set" = none) (ha : PE X e ta)
    (na : starEach [e] X.env = (false, eval e X.env) :: starEach [] X.env := by rfl) : PE X (.Call (.Name "len" p) [.Call (.Name "set" p2) [e] [] q] [] pos) (tLenSetQ K ta) := by subst h; exact pe_lenSetQ hc hu hg hm hg2 hm2 ha na
theorem K_bm {o e : Expr} {es : List Expr} {to : TE} {t : TA} {name : Str} {apos cpos : Pos} {T id : String} {r : V → List V → Hp → VK → Prop} (h : X.K = K) (h1 : PlainAttrs T) (h2 : Slot T name id) (h3 : typeOf (Value.builtin id) = pure (Value.type "method_descriptor"))
    (hm : MtR X id r) (ho : PE X o to) (ha : PA X (e :: es) t) (a1 : attributeBase o name X.env (eval o X.env) = eval o X.env := by rfl)
    (a2 : ((backTo cpos (starEach (e :: es) X.env)).all (fun x => !x.1) && (backToKw cpos (keywordEach [] X.env)).all (fun x => x.1.isSome) && decide ((e :: es).length + ([] : List Keyword).length + (if ([] : List Keyword).isEmpty then 0 else 1) < 30)) = true := by rfl)
    (a3 : (apos.endLine == cpos.line) = true := by rfl) (a4 : starEach (e :: es) X.env = (false, eval e X.env) :: starEach es X.env := by rfl) (a5 : (backTo cpos (starEach es X.env)).any (·.1) = false := by rfl) :
    PE X ((o.Attribute name apos).Call (e :: es) [] cpos) (tBM K T r to t) := by subst h; exact pe_bm h1 h2 h3 hm ho ha a1 a2 a3 a4 a5
theorem K_WISHES {C : Addr} {mg : Str → Option Value} {pos : Pos} (V : Env K mg C) (h : X.K = K) (h2 : X.mg = mg) (hg : Gl X "WISHES" := by rfl) : PE X (.Name "WISHES" pos) (fun _ H Q => ∀ a, (∀ H', SqT K H' a [.str "odd", .str "even", .str "stuck"]) → Q (.ref a) H) := by
  subst h h2; exact pe_WISHES V hg
end
end K41
namespace K41
open PySem PySem.Spec PyProof.Rows L2 PySem.W
/-! ### sorting -/
section
variable {β : Type} {enc : β → PyData}
def srt (enc : β → PyData) (l : List β) : List β := l.mergeSort (leD enc)
def Inj (enc : β → PyData) : Prop := ∀ a b, keyToks (enc a) = keyToks (enc b) → a = b
theorem leD_trans (a b c : β) (h1 : leD enc a b = true) (h2 : leD enc b c = true) : leD enc a c = true := (sortLe_total (listOrd itemOrd) false fun b => keyToks (enc b)).trans a b c h1 h2
theorem leD_total (a b : β) : (leD enc a b || leD enc b a) = true := by
  rcases (sortLe_total (listOrd itemOrd) false fun b => keyToks (enc b)).total a b with h | h
  · rw [show leD enc a b = true from h]; rfl
  · rw [show leD enc b a = true from h, Bool.or_true]
theorem leD_anti (hi : Inj enc) {a b : β} (h1 : leD enc a b = true) (h2 : leD enc b a = true) : a = b := by
  refine hi a b ?_
  have e1 : lexLt itemOrd (keyToks (enc b)) (keyToks (enc a)) = false := by
    have q : (!lexLt itemOrd (keyToks (enc b)) (keyToks (enc a))) = true := h1
    simpa using q
  have e2 : lexLt itemOrd (keyToks (enc a)) (keyToks (enc b)) = false := by
    have q : (!lexLt itemOrd (keyToks (enc a)) (keyToks (enc b))) = true := h2
    simpa using q
  exact lex_total _ _ e2 e1
theorem srt_perm (l : List β) : (srt enc l).Perm l := List.mergeSort_perm _ _
theorem srt_pw (l : List β) : (srt enc l).Pairwise fun a b => leD enc a b = true := List.pairwise_mergeSort leD_trans leD_total l
theorem srt_len (l : List β) : (srt enc l).length = l.length := (srt_perm l).length_eq
theorem srt_mem {l : List β} {x : β} : x ∈ srt enc l ↔ x ∈ l := (srt_perm l).mem_iff
theorem srt_id {l : List β} (h : l.Pairwise fun a b => leD enc a b = true) : srt enc l = l := List.mergeSort_of_pairwise h
theorem eq_of_sorted (hi : Inj enc) : ∀ {l m : List β}, l.Perm m → l.Pairwise (fun a b => leD enc a b = true) → m.Pairwise (fun a b => leD enc a b = true) → l = m
  | [], m, p, _, _ => by
    rw [List.nil_perm.mp p]
  | a :: l, [], p, _, _ => absurd (List.perm_nil.mp p) (by simp)
  | a :: l, b :: m, p, h1, h2 => by
    have h1' := List.pairwise_cons.mp h1
    have h2' := List.pairwise_cons.mp h2
    have e : a = b := by
      have ha : a ∈ b :: m := p.mem_iff.mp (List.mem_cons_self ..)
      have hb : b ∈ a :: l := p.mem_iff.mpr (List.mem_cons_self ..)
      rcases List.mem_cons.mp ha with rfl | ha
      · rfl
      · rcases List.mem_cons.mp hb with e | hb
        · exact e.symm
        · exact leD_anti hi (h1'.1 b hb) (h2'.1 a ha)
    subst e
    rw [eq_of_sorted hi ((List.perm_cons a).mp p) h1'.2 h2'.2]
theorem srt_eq (hi : Inj enc) {l m : List β} (p : l.Perm m) : srt enc l = srt enc m := eq_of_sorted hi ((srt_perm l).trans (p.trans (srt_perm m).symm)) (srt_pw l) (srt_pw m)
theorem srt_nodup {l : List β} (h : l.Nodup) : (srt enc l).Nodup := (srt_perm l).nodup_iff.mpr h
end
theorem inj_str : Inj PyData.str := fun a b h => by
  have h' : ([Sum.inr a.cps.toList] : List (Int ⊕ List Nat)) = [Sum.inr b.cps.toList] := h
  have e := Sum.inr.inj (List.head_eq_of_cons_eq h')
  cases a; cases b
  simp only [Str.mk.injEq]
  exact Array.toList_inj.mp e
theorem toks_strs : ∀ {xs ys : List Str}, keyToksAll (xs.map .str) = keyToksAll (ys.map .str) → xs = ys
  | [], [], _ => rfl
  | [], y :: ys, h => by
    have h' : ([Sum.inl 0] : List (Int ⊕ List Nat)) = Sum.inl 1 :: (keyToks (.str y) ++ keyToksAll (ys.map .str)) := h
    exact absurd (Sum.inl.inj (List.head_eq_of_cons_eq h')) (by decide)
  | x :: xs, [], h => by
    have h' : (Sum.inl 1 :: (keyToks (.str x) ++ keyToksAll (xs.map .str)) : List (Int ⊕ List Nat)) = [Sum.inl 0] := h
    exact absurd (Sum.inl.inj (List.head_eq_of_cons_eq h')) (by decide)
  | x :: xs, y :: ys, h => by
    have h' : (Sum.inl 1 :: Sum.inr x.cps.toList :: keyToksAll (xs.map .str) : List (Int ⊕ List Nat)) = Sum.inl 1 :: Sum.inr y.cps.toList :: keyToksAll (ys.map .str) := h
    have h1 := List.tail_eq_of_cons_eq h'
    have e1 : x = y := inj_str x y (by
      show ([Sum.inr x.cps.toList] : List (Int ⊕ List Nat)) = [Sum.inr y.cps.toList]
      rw [List.head_eq_of_cons_eq h1])
    rw [e1, toks_strs (List.tail_eq_of_cons_eq h1)]
theorem inj_words : Inj eW := fun a b h => toks_strs h
theorem inj_wtup : Inj (fun ws : List Str => PyData.tuple (ws.map .str)) := fun a b h => toks_strs h
theorem inj_tie : Inj eT2 := fun a b h => by
  have e : [a.1, a.2] = [b.1, b.2] := toks_strs (xs := [a.1, a.2]) (ys := [b.1, b.2]) h
  have e1 := List.head_eq_of_cons_eq e
  have e2 := List.head_eq_of_cons_eq (List.tail_eq_of_cons_eq e)
  exact Prod.ext e1 e2
theorem le_str {a b : Str} : leD PyData.str a b = decide (a.cps.toList ≤ b.cps.toList) := by
  have h := dataLe_str (fun x : Str => x)
  exact congrFun (congrFun h a) b
theorem lt_of_le_ne {a b : Str} (h : leD PyData.str a b = true) (hn : a ≠ b) : Lt a b := by
  rw [le_str, decide_eq_true_eq] at h
  rcases List.le_iff_lt_or_eq.mp h with h | h
  · exact h
  · refine absurd ?_ hn
    cases a; cases b
    simp only [Str.mk.injEq]
    exact Array.toList_inj.mp h
theorem le_of_lt {a b : Str} (h : Lt a b) : leD PyData.str a b = true := by
  rw [le_str, decide_eq_true_eq]
  exact List.le_of_lt h
theorem Lt.ne {a b : Str} (h : Lt a b) : a ≠ b := fun e => by
  subst e
  exact List.lt_irrefl _ h
theorem pw_lt {l : List Str} (h : l.Pairwise fun a b => leD PyData.str a b = true) (hn : l.Nodup) : l.Pairwise Lt := by
  have q : l.Pairwise fun a b => leD PyData.str a b = true ∧ a ≠ b := h.and hn
  exact q.imp fun ⟨h1, h2⟩ => lt_of_le_ne h1 h2
theorem lt_pw {l : List Str} (h : l.Pairwise Lt) : l.Pairwise fun a b => leD PyData.str a b = true := h.imp le_of_lt
theorem lt_nodup {l : List Str} (h : l.Pairwise Lt) : l.Nodup := h.imp Lt.ne
theorem srt_lt {l : List Str} (h : l.Nodup) : (srt PyData.str l).Pairwise Lt := pw_lt (srt_pw l) (srt_nodup h)
theorem lt_eq {l m : List Str} (h1 : l.Pairwise Lt) (h2 : m.Pairwise Lt) (h : ∀ x, x ∈ l ↔ x ∈ m) : l = m :=
  eq_of_sorted inj_str ((List.perm_ext_iff_of_nodup (lt_nodup h1) (lt_nodup h2)).mpr h) (lt_pw h1) (lt_pw h2)
end K41
namespace K41
open PySem PySem.Spec PyProof.Rows L2 PySem.W
/-! ### dicts keyed by words -/
def fk (ws : List Str) (g : Str → V) : List (Key × V) := ws.map fun l => (Sum.inr l, g l)
section
variable {ws : List Str} {g g' : Str → V} {l : Str} {v : V}
theorem valV_fk : ∀ {ws : List Str}, l ∈ ws → valV (fk ws g) (Sum.inr l : Key) = some (g l)
  | w :: ws, h => by
    show valV ((Sum.inr w, g w) :: fk ws g) (Sum.inr l : Key) = _
    by_cases e : w = l
    · subst e
      exact valV_pos rfl
    · rw [valV_neg (fun z => e (Sum.inr.inj z))]
      exact valV_fk ((List.mem_cons.mp h).resolve_left fun z => e z.symm)
theorem valV_fkn : ∀ {ws : List Str}, l ∉ ws → valV (fk ws g) (Sum.inr l : Key) = none
  | [], _ => rfl
  | w :: ws, h => by
    show valV ((Sum.inr w, g w) :: fk ws g) (Sum.inr l : Key) = _
    have ne : ¬ (Sum.inr w : Key) = Sum.inr l := fun z => h (by
      rw [Sum.inr.inj z]
      exact List.mem_cons_self ..)
    rw [valV_neg (p := (Sum.inr w, g w)) ne]
    exact valV_fkn fun z => h (List.mem_cons_of_mem _ z)
theorem fk_snoc (h : l ∉ ws) : putK (fk ws g) (Sum.inr l : Key) v = fk ws g ++ [(Sum.inr l, v)] := putK_new v (valV_fkn h)
theorem fk_app (h : g l = v) : fk ws g ++ [(Sum.inr l, v)] = fk (ws ++ [l]) g := by
  unfold fk
  rw [List.map_append, List.map_singleton, h]
theorem fk_congr (h : ∀ l ∈ ws, g l = g' l) : fk ws g = fk ws g' := List.map_congr_left fun l hl => by rw [h l hl]
theorem fk_step {na : Str → Addr} {p : Addr} (h : l ∉ ws) : putK (fk ws fun m => .ref (na m)) (Sum.inr l : Key) (.ref p) = fk (ws ++ [l]) (fun m => .ref (if m = l then p else na m)) := by
  have e1 : (fun m : Str => V.ref (if m = l then p else na m)) l = V.ref p := by
    show V.ref (if l = l then p else na l) = V.ref p
    rw [if_pos rfl]
  rw [fk_snoc h, ← fk_app e1]
  refine congrArg (· ++ _) (fk_congr fun m hm => ?_)
  show V.ref (na m) = V.ref (if m = l then p else na m)
  rw [if_neg fun e : m = l => h (e ▸ hm)]
theorem fk_len : (fk ws g).length = ws.length := List.length_map ..
theorem mergeK_from : ∀ {ws vs : List Str}, (vs ++ ws).Nodup → mergeK (fk vs g) (fk ws g) = fk (vs ++ ws) g
  | [], vs, _ => by rw [List.append_nil]; rfl
  | w :: ws, vs, h => by
    have hw : w ∉ vs := fun z => (List.nodup_append.mp h).2.2 w z w (List.mem_cons_self ..) rfl
    show mergeK (putK (fk vs g) (Sum.inr w : Key) (g w)) (fk ws g) = _
    rw [fk_snoc hw, fk_app rfl, mergeK_from (by rw [List.append_assoc]; exact h), List.append_assoc]
    rfl
theorem mergeK_fk (h : ws.Nodup) : mergeK [] (fk ws g) = fk ws g := mergeK_from (vs := []) h
theorem fk_take {i : Nat} (h : ws[i]? = some l) : fk (ws.take (i + 1)) g = fk (ws.take i) g ++ [(Sum.inr l, g l)] := by
  rw [List.take_succ, h]
  exact (fk_app rfl).symm
end
theorem notin_take {α : Type} {ws : List α} (hn : ws.Nodup) {i : Nat} {l : α} (h : ws[i]? = some l) : l ∉ ws.take i := fun hq => by
  obtain ⟨j, hj, ej⟩ := List.mem_iff_getElem.mp hq
  rw [List.length_take] at hj
  rw [List.getElem_take] at ej
  obtain ⟨hi, ei⟩ := List.getElem?_eq_some_iff.mp h
  have hji : j < ws.length := by omega
  have := (List.getElem_inj hn (h₀ := hji) (h₁ := hi)).mp (ej.trans ei.symm)
  omega
theorem take_snoc' {α : Type} {ws : List α} {i : Nat} {l : α} (h : ws[i]? = some l) : ws.take (i + 1) = ws.take i ++ [l] := by
  rw [List.take_succ, h]
  rfl
/-! ### neighbours -/
def nearU (ts : List (Str × Str)) (l : Str) : List Str := ts.flatMap fun t => (if t.1 = l then [t.2] else []) ++ (if t.2 = l then [t.1] else [])
def nearF (ts : List (Str × Str)) (l : Str) : List Str := srt PyData.str (nearU ts l)
theorem nearU_snoc (ts : List (Str × Str)) (t : Str × Str) (l : Str) : nearU (ts ++ [t]) l = nearU ts l ++ (if t.1 = l then [t.2] else []) ++ (if t.2 = l then [t.1] else []) := by
  unfold nearU
  rw [List.flatMap_append, List.flatMap_cons, List.flatMap_nil, List.append_nil, List.append_assoc]
theorem nearU_len (ts : List (Str × Str)) (l : Str) : (nearU ts l).length ≤ 2 * ts.length := by
  induction ts with
  | nil => exact Nat.le_refl _
  | cons t ts ih =>
    have e : nearU (t :: ts) l = ((if t.1 = l then [t.2] else []) ++ (if t.2 = l then [t.1] else [])) ++ nearU ts l := rfl
    rw [e, List.length_append, List.length_append, List.length_cons]
    have h1 : (if t.1 = l then [t.2] else []).length ≤ 1 := by split <;> simp
    have h2 : (if t.2 = l then [t.1] else []).length ≤ 1 := by split <;> simp
    omega
/-- the piles of a dict of new lists -/
structure Piles (G H : Hp) (ws : List Str) (na : Str → Addr) (cs : Str → List Str) : Prop where
  new : ∀ l ∈ ws, G (na l) = none
  each : ∀ l ∈ ws, H (na l) = some (.lst ((cs l).map V.str))
  inj : ∀ l ∈ ws, ∀ m ∈ ws, na l = na m → l = m
theorem Piles.add {G H : Hp} {ws : List Str} {na : Str → Addr} {cs : Str → List Str} (p : Piles G H ws na cs) {l x : Str} (hl : l ∈ ws) : Piles G (upd H (na l) (.lst ((cs l).map V.str ++ [.str x]))) ws na (fun m => cs m ++ if l = m then [x] else []) := by
  refine ⟨p.new, fun m hm => ?_, p.inj⟩
  by_cases e : l = m
  · subst e
    rw [upd_same, if_pos rfl, List.map_append]
    rfl
  · rw [upd_ne (fun z => e (p.inj m hm l hl z).symm), if_neg e, List.append_nil]
    exact p.each m hm
theorem Piles.snoc {G H : Hp} {ws : List Str} {na : Str → Addr} {l : Str} {a : Addr} (p : Piles G H ws na fun _ => []) (hl : l ∉ ws) (ha : H a = none) (hg : G a = none) :
    Piles G (upd H a (.lst [])) (ws ++ [l]) (fun m => if m = l then a else na m) fun _ => [] := by
  have key : ∀ m ∈ ws, m ≠ l := fun m hm e => hl (e ▸ hm)
  have ne : ∀ m ∈ ws, na m ≠ a := fun m hm => ne_of_none (p.each m hm) ha
  refine ⟨fun m hm => ?_, fun m hm => ?_, fun m hm n hn e => ?_⟩
  · rcases List.mem_append.mp hm with hm | hm
    · rw [if_neg (key m hm)]
      exact p.new m hm
    · rw [List.mem_singleton.mp hm, if_pos rfl]
      exact hg
  · rcases List.mem_append.mp hm with hm | hm
    · rw [if_neg (key m hm), upd_ne (ne m hm)]
      exact p.each m hm
    · rw [List.mem_singleton.mp hm, if_pos rfl]
      exact upd_same
  · rcases List.mem_append.mp hm with hm | hm <;> rcases List.mem_append.mp hn with hn | hn
    · rw [if_neg (key m hm), if_neg (key n hn)] at e
      exact p.inj m hm n hn e
    · rw [if_neg (key m hm), List.mem_singleton.mp hn, if_pos rfl] at e
      exact absurd e (ne m hm)
    · rw [if_neg (key n hn), List.mem_singleton.mp hm, if_pos rfl] at e
      exact absurd e.symm (ne n hn)
    · rw [List.mem_singleton.mp hm, List.mem_singleton.mp hn]
theorem Piles.upd {G H : Hp} {ws : List Str} {na : Str → Addr} {cs : Str → List Str} {D : Addr} {o : HO} (p : Piles G H ws na cs) (h : ∀ l ∈ ws, na l ≠ D) : Piles G (upd H D o) ws na cs :=
  ⟨p.new, fun l hl => by rw [upd_ne (h l hl)]; exact p.each l hl, p.inj⟩
theorem Piles.kp {G H H' : Hp} {ws : List Str} {na : Str → Addr} {cs : Str → List Str} (p : Piles G H ws na cs) (k : Kp [] H H') : Piles G H' ws na cs := ⟨p.new, fun l hl => k.same _ _ (p.each l hl), p.inj⟩
/-- a dict of the neighbours -/
def NearAt (K : PySem.W.Frag) (G : Hp) (d : Addr) (ws : List Str) (ts : List (Str × Str)) : Prop := ∃ nb : Str → Addr, G d = some (.dK (fk ws fun l => .ref (nb l))) ∧ ∀ l ∈ ws, SqL K G (nb l) ((nearF ts l).map V.str)
theorem NearAt.mono {K : PySem.W.Frag} {G G' : Hp} {d : Addr} {ws : List Str} {ts : List (Str × Str)} (h : NearAt K G d ws ts) (e : Same G G') : NearAt K G' d ws ts := by
  obtain ⟨nb, h1, h2⟩ := h
  exact ⟨nb, e _ _ h1, fun l hl => e.seq (h2 l hl)⟩
/-! ### a comprehension that makes a dict -/
section
variable {J : It} {n : Nat} {G : Hp → Prop} {Y : Nat → Hp → V → Hp → Prop}
theorem dc_it (w : Walk J n G Y) {g : TG} {tk tv : TE} {vs : List Nat} {σ : L2.St} {H1 : Hp} {D : Addr} {Qd : Hp → Prop} (Pv : Nat → Hp → Prop) (h0 : Pv 0 (upd H1 D (.dK []))) (hG : ∀ i H, i ≤ n → Pv i H → G H)
    (hs : ∀ i x H H', i < n → Pv i H → Y i H x H' → g x (wipe σ vs) H' fun σ2 H2 => wipe σ2 vs = wipe σ vs ∧
      tk σ2 H2 fun y H4 => tv σ2 H4 fun z H5 => ∃ kvs k, y = kV k ∧ H5 D = some (.dK kvs) ∧ kvs.length < sizeLine ∧ Pv (i + 1) (upd H5 D (.dK (putK kvs k z)))) (hd : ∀ H, Pv n H → Qd H) :
    ∃ W : Nat → Nat → Hp → Prop, (∃ m, W 0 m (upd H1 D (.dK []))) ∧ ∀ i m H, W i m H →
      (J.stop i H ∧ Qd H) ∨ (J.go i H ∧ ∃ Nx : Hp → Prop, (∀ H', Nx H' → ∃ m', m' < m ∧ W (i + 1) m' H') ∧ ∀ x H', J.yld i H x H' → g x (wipe σ vs) H' fun σ2 H2 => wipe σ2 vs = wipe σ vs ∧ tYes σ2 H2 fun b H3 =>
        if b = true then tk σ2 H3 fun y H4 => tv σ2 H4 fun z H5 => ∃ kvs k, y = kV k ∧ H5 D = some (.dK kvs) ∧ kvs.length < sizeLine ∧ Nx (upd H5 D (.dK (putK kvs k z))) else Nx H3) := by
  refine ⟨fun i m H => m = n - i ∧ i ≤ n ∧ Pv i H, ⟨n, by simp, Nat.zero_le _, h0⟩, ?_⟩
  rintro i m H ⟨rfl, hi, p⟩
  have q := hG i H hi p
  by_cases hlt : i < n
  · exact .inr ⟨w.goes i H hlt q, Pv (i + 1), fun H' p' => ⟨n - (i + 1), by omega, rfl, hlt, p'⟩, fun x H' y => hs i x H H' hlt p (w.yields i H x H' hlt q y)⟩
  · have e : i = n := by omega
    subst e
    exact .inl ⟨w.stops H q, hd H p⟩
end
theorem K_pgtup {X : Cx} {K : PySem.W.Frag} {es : List Expr} {k : Nat} {t : TGs} {n : Nat} {pos : Pos} (h : X.K = K) (hc : X.calm = true) (hh : PGs X es t)
    (hn : (assignEach es X.env).length = n := by rfl) (hst : (assignEach es X.env).findIdx? (·.1) = none := by rfl) : PG X (.Tuple es k pos) (gTup K n t) := by
  subst h
  exact pg_tup hc hh hn hst
/-! ### what sorting asks -/
theorem al_strs (ws : List Str) : AllAlike (ws.map PyData.str) := fun d hd e he => by
  obtain ⟨x, _, rfl⟩ := List.mem_map.mp hd
  obtain ⟨y, _, rfl⟩ := List.mem_map.mp he
  simp [alike]
theorem ok_strs (ws : List Str) : SortOk (ws.map PyData.str) := .inl (.inr fun d hd => by
  obtain ⟨x, _, rfl⟩ := List.mem_map.mp hd
  exact ⟨(fun z => nomatch z), (fun xs z => nomatch z)⟩)
theorem dep_str (x : Str) : (PyData.str x).depth ≤ 8 := by simp [PyData.depth]
theorem al_tup {α : Type} {f : α → PyData} (ts : List α) (h : ∀ x y, alike (f x) (f y) = true) : AllAlike (ts.map f) := fun d hd e he => by
  obtain ⟨x, _, rfl⟩ := List.mem_map.mp hd
  obtain ⟨y, _, rfl⟩ := List.mem_map.mp he
  exact h x y
theorem al_ties (ts : List (Str × Str)) : AllAlike (ts.map eT2) := al_tup ts fun x y => by simp [eT2, alike, alikeAll]
theorem ok_ties (ts : List (Str × Str)) : SortOk (ts.map eT2) := .inr fun d hd => by
  obtain ⟨x, _, rfl⟩ := List.mem_map.mp hd
  exact ⟨_, rfl⟩
theorem dep_tie (x : Str × Str) : (eT2 x).depth ≤ 8 := by simp [eT2, PyData.depth, PyData.depthAll]
theorem al_words (ts : List (List Str)) : AllAlike (ts.map eW) := al_tup ts fun x y => by
  show alike (.list (x.map .str)) (.list (y.map .str)) = true
  rw [alike]
  exact alike_strs x y
theorem ok_words (ts : List (List Str)) : SortOk (ts.map eW) := .inl (.inr fun d hd => by
  obtain ⟨x, _, rfl⟩ := List.mem_map.mp hd
  exact ⟨(fun z => nomatch z), (fun xs z => nomatch z)⟩)
theorem dep_words (x : List Str) : (eW x).depth ≤ 8 := by
  show (PyData.list (x.map .str)).depth ≤ 8
  rw [PyData.depth, depth_strs]
  omega
theorem sort_ans2 {K : PySem.W.Frag} {H G : Hp} {a : Addr} {xs : List V} {α : Type} {e : α → PyData} {items : List α} {Q : VK} (h : SqL K H a xs) (da : DpAll K G xs (items.map e)) (s : Same G H) (hal : AllAlike (items.map e)) (hok : SortOk (items.map e)) (hdep : ∀ x, (e x).depth ≤ 8)
    (k : ∀ p ys, H p = none → DpAll K G ys ((srt e items).map e) → (∀ y ∈ ys, y ∈ xs) → Q (.ref p) (upd H p (.lst ys))) : RSort K [.ref a] H Q := by
  refine ⟨?_⟩
  have hl : xs.length = items.length := da_len da
  have hz : ∀ z ∈ xs.zip items, Dp K G z.1 (e z.2) := fun z hz => by
    obtain ⟨i, hi⟩ := List.mem_iff_getElem?.mp hz
    obtain ⟨h1, h2⟩ := List.getElem?_zip_eq_some.mp hi
    obtain ⟨x, hx, d⟩ := da_at da h1
    rw [h2] at hx
    cases hx
    exact d
  have m1 : (xs.zip items).map (·.1) = xs := List.map_fst_zip (by omega)
  have m2 : (xs.zip items).map (·.2) = items := List.map_snd_zip (by omega)
  have m3 : (xs.zip items).map (fun z => e z.2) = items.map e := by
    have q := congrArg (List.map e) m2
    rw [List.map_map] at q
    exact q
  refine ⟨V × α, a, xs.zip items, (·.1), fun z => e z.2, rfl, by rw [m1]; exact h, fun z hz' => Dp.mono s (hz z hz'), by rw [m3]; exact hal, by rw [m3]; exact hok, fun z _ => hdep z.2, fun p np => k p _ np ?_ fun y hy => ?_⟩
  rotate_left
  · obtain ⟨z, hz', rfl⟩ := List.mem_map.mp hy
    exact (List.of_mem_zip ((List.mergeSort_perm ..).mem_iff.mp hz')).1
  have m4 : ((xs.zip items).mergeSort (leD fun z => e z.2)).map (·.2) = srt e items := by
    have q := sort_maps (r := leD fun z : V × α => e z.2) (s := leD e) (fun z : V × α => z.2) (l := xs.zip items) fun x _ y _ => rfl
    rw [m2] at q
    exact q
  rw [← m4, List.map_map]
  have q : ∀ zs : List (V × α), (∀ z ∈ zs, Dp K G z.1 (e z.2)) → DpAll K G (zs.map (·.1)) (zs.map (e ∘ (·.2))) := fun zs => by
    induction zs with
    | nil => exact fun _ => .nil
    | cons z zs ih => exact fun h => .cons (h z (List.mem_cons_self ..)) (ih fun y hy => h y (List.mem_cons_of_mem _ hy))
  exact q _ fun z hz' => hz z ((List.mergeSort_perm ..).mem_iff.mp hz')
theorem sort_ans {K : PySem.W.Frag} {H G : Hp} {a : Addr} {xs : List V} {α : Type} {e : α → PyData} {items : List α} {Q : VK} (h : SqL K H a xs) (da : DpAll K G xs (items.map e)) (s : Same G H) (hal : AllAlike (items.map e)) (hok : SortOk (items.map e)) (hdep : ∀ x, (e x).depth ≤ 8)
    (k : ∀ p ys, H p = none → DpAll K G ys ((srt e items).map e) → Q (.ref p) (upd H p (.lst ys))) : RSort K [.ref a] H Q := sort_ans2 h da s hal hok hdep fun p ys h1 h2 _ => k p ys h1 h2
theorem sort_words {K : PySem.W.Frag} {H : Hp} {a : Addr} {ws : List Str} {Q : VK} (h : SqL K H a (ws.map V.str)) (k : ∀ p, H p = none → Q (.ref p) (upd H p (.lst ((srt PyData.str ws).map V.str)))) : RSort K [.ref a] H Q :=
  ⟨⟨Str, a, ws, V.str, PyData.str, rfl, h, fun x _ => .str x, al_strs _, ok_strs _, fun x _ => dep_str x, k⟩⟩
theorem hu0 {A : Around} {k : Nat} (hr : Room k A) : A.units < cLine := by have := hr.un; omega
/-! ### the fields -/
def flds (b e w r f k : Addr) : List (Str × V) := [("bulbs", .ref b), ("edges", .ref e), ("wants", .ref w), ("near", .ref r), ("free", .ref f), ("known", .ref k)]
section
variable {b e w r f k : Addr}
theorem fl_bulbs : (flds b e w r f k).lookup ("bulbs" : Str) = some (.ref b) := rfl
theorem fl_edges : (flds b e w r f k).lookup ("edges" : Str) = some (.ref e) := rfl
theorem fl_wants : (flds b e w r f k).lookup ("wants" : Str) = some (.ref w) := rfl
theorem fl_near : (flds b e w r f k).lookup ("near" : Str) = some (.ref r) := rfl
theorem fl_free : (flds b e w r f k).lookup ("free" : Str) = some (.ref f) := rfl
def fl1 (b : Addr) : List (Str × V) := [("bulbs", .ref b)]
def fl2 (b e : Addr) : List (Str × V) := [("bulbs", .ref b), ("edges", .ref e)]
def fl3 (b e w : Addr) : List (Str × V) := [("bulbs", .ref b), ("edges", .ref e), ("wants", .ref w)]
def fl4 (b e w r : Addr) : List (Str × V) := [("bulbs", .ref b), ("edges", .ref e), ("wants", .ref w), ("near", .ref r)]
def fl5 (b e w r f : Addr) : List (Str × V) := [("bulbs", .ref b), ("edges", .ref e), ("wants", .ref w), ("near", .ref r), ("free", .ref f)]
theorem pf1 : putF "bulbs" (.ref b) [] = fl1 b := rfl
theorem pf2 : putF "edges" (.ref e) (fl1 b) = fl2 b e := by
  have e1 : ¬ ("bulbs" : Str) = "edges" := by decide +kernel
  simp only [fl1, fl2, putF, if_neg e1]
theorem pf3 : putF "wants" (.ref w) (fl2 b e) = fl3 b e w := by
  have e2 : ¬ ("bulbs" : Str) = "wants" := by decide +kernel
  have e6 : ¬ ("edges" : Str) = "wants" := by decide +kernel
  simp only [fl2, fl3, putF, if_neg e2, if_neg e6]
theorem pf4 : putF "near" (.ref r) (fl3 b e w) = fl4 b e w r := by
  have e3 : ¬ ("bulbs" : Str) = "near" := by decide +kernel
  have e7 : ¬ ("edges" : Str) = "near" := by decide +kernel
  have e10 : ¬ ("wants" : Str) = "near" := by decide +kernel
  simp only [fl3, fl4, putF, if_neg e3, if_neg e7, if_neg e10]
theorem pf5 : putF "free" (.ref f) (fl4 b e w r) = fl5 b e w r f := by
  have e4 : ¬ ("bulbs" : Str) = "free" := by decide +kernel
  have e8 : ¬ ("edges" : Str) = "free" := by decide +kernel
  have e11 : ¬ ("wants" : Str) = "free" := by decide +kernel
  have e13 : ¬ ("near" : Str) = "free" := by decide +kernel
  simp only [fl4, fl5, putF, if_neg e4, if_neg e8, if_neg e11, if_neg e13]
theorem pf6 : putF "known" (.ref k) (fl5 b e w r f) = flds b e w r f k := by
  have e5 : ¬ ("bulbs" : Str) = "known" := by decide +kernel
  have e9 : ¬ ("edges" : Str) = "known" := by decide +kernel
  have e12 : ¬ ("wants" : Str) = "known" := by decide +kernel
  have e14 : ¬ ("near" : Str) = "known" := by decide +kernel
  have e15 : ¬ ("free" : Str) = "known" := by decide +kernel
  simp only [fl5, flds, putF, if_neg e5, if_neg e9, if_neg e12, if_neg e14, if_neg e15]
end
/-! ### the net -/
structure Net where
  lamps : List Str
  ties : List (Str × Str)
  wish : Str → Str
/-- the instance's data, all of it; lists of words, of ties, dicts -/
def NetV (K : PySem.W.Frag) (C : Addr) (G : Hp) (v : V) (N : Net) : Prop := ∃ n dx b e w r f k, v = .ref n ∧
  G n = some (.ins C dx (flds b e w r f k)) ∧
  SqL K G b (N.lamps.map V.str) ∧ Dp K G (.ref e) (eT N.ties) ∧ G w = some (.dK (fk N.lamps fun l => .str (N.wish l))) ∧ NearAt K G r N.lamps N.ties ∧
  SqL K G f ((N.lamps.filter fun l => decide (N.wish l ≠ "stuck")).map V.str)
theorem NetV.mono {K : PySem.W.Frag} {C : Addr} {G G' : Hp} {v : V} {N : Net} (h : NetV K C G v N) (s : Same G G') : NetV K C G' v N := by
  obtain ⟨n, dx, b, e, w, r, f, k, rfl, h1, h2, h3, h4, h5, h6⟩ := h
  exact ⟨n, dx, b, e, w, r, f, k, rfl, s _ _ h1, s.seq h2, Dp.mono s h3, s _ _ h4, h5.mono s, s.seq h6⟩
/-- the law's net: a list of lamps, ties, wishes -/
def LNet (K : PySem.W.Frag) (G : Hp) (v : V) (N : Net) : Prop := ∃ a b e w, v = .ref a ∧ SqL K G a [.ref b, .ref e, .ref w] ∧ SqL K G b (N.lamps.map V.str) ∧ Dp K G (.ref e) (eT N.ties) ∧ G w = some (.dK (fk N.lamps fun l => .str (N.wish l)))
theorem LNet.mono {K : PySem.W.Frag} {G G' : Hp} {v : V} {N : Net} (h : LNet K G v N) (s : Same G G') : LNet K G' v N := by
  obtain ⟨a, b, e, w, rfl, h1, h2, h3, h4⟩ := h
  exact ⟨a, b, e, w, rfl, s.seq h1, s.seq h2, Dp.mono s h3, s _ _ h4⟩
/-- a net as the law draws them -/
structure Good (N : Net) : Prop where
  sorted : N.lamps.Pairwise Lt
  words : ∀ l ∈ N.lamps, Word l
  some : 0 < N.lamps.length
  few : N.lamps.length ≤ 8
  tsorted : N.ties.Pairwise fun a b => leD eT2 a b = true
  tunlike : N.ties.Nodup
  tok : ∀ t ∈ N.ties, Lt t.1 t.2 ∧ t.1 ∈ N.lamps ∧ t.2 ∈ N.lamps
  tfew : N.ties.length < 64
  wishes : ∀ l ∈ N.lamps, N.wish l ∈ (["odd", "even", "stuck"] : List Str)
end K41
namespace K41
open PySem PySem.Spec PyProof.Rows L2 PySem.W
/-! ### data's form, and when it is equal -/
def Low (x : Str) : Prop := ∀ c ∈ x.cps.toList, c ≤ 122
theorem Word.low {x : Str} (h : Word x) : Low x := fun c hc => (h.2.2 c hc).2
theorem lay_str {x : Str} (h : Low x) : (PyData.str x).canLay0 = true := by
  rw [PyData.canLay0]
  show (x.cps.all fun c => decide (c < 0x110000)) = true
  rw [Array.all_eq_true']
  intro c hc
  have := h c (Array.mem_toList_iff.mpr hc)
  exact decide_eq_true (by omega)
theorem lay_all {α : Type} {f : α → PyData} : ∀ {xs : List α}, (∀ x ∈ xs, (f x).canLay0 = true) → PyData.canLayAll0 (xs.map f) = true
  | [], _ => by rw [List.map_nil, PyData.canLayAll0]
  | x :: xs, h => by
    rw [List.map_cons, PyData.canLayAll0, h x (List.mem_cons_self ..), lay_all fun y hy => h y (List.mem_cons_of_mem _ hy)]
    rfl
theorem dep_all {α : Type} {f : α → PyData} {n : Nat} : ∀ {xs : List α}, (∀ x ∈ xs, (f x).depth ≤ n) → PyData.depthAll (xs.map f) ≤ n
  | [], _ => by rw [List.map_nil, PyData.depthAll]; omega
  | x :: xs, h => by
    rw [List.map_cons, PyData.depthAll]
    have h1 := h x (List.mem_cons_self ..)
    have h2 := dep_all fun y hy => h y (List.mem_cons_of_mem _ hy)
    omega
/-- data of depth at most n that can be compared -/
structure Fine (n : Nat) (d : PyData) : Prop where
  lay : d.canLay0 = true
  dep : d.depth ≤ n
theorem Fine.shaped {n : Nat} {d : PyData} (h : Fine n d) (hn : n ≤ 64) : SeqAt.shaped d = true := by
  unfold SeqAt.shaped
  rw [h.lay, decide_eq_true (Nat.le_trans h.dep hn)]
  rfl
theorem Fine.mono {n m : Nat} {d : PyData} (h : Fine n d) (hn : n ≤ m) : Fine m d := ⟨h.lay, Nat.le_trans h.dep hn⟩
theorem fine_non : Fine 0 .none := ⟨by rw [PyData.canLay0], by rw [PyData.depth]; omega⟩
theorem fine_bl {b : Bool} : Fine 0 (.bool b) := ⟨by rw [PyData.canLay0], by rw [PyData.depth]; omega⟩
theorem fine_int {i : Int} : Fine 0 (.int i) := ⟨by rw [PyData.canLay0], by rw [PyData.depth]; omega⟩
theorem fine_str {x : Str} (h : Low x) : Fine 0 (.str x) := ⟨lay_str h, by rw [PyData.depth]; omega⟩
theorem fine_list {α : Type} {f : α → PyData} {xs : List α} {n : Nat} (h : ∀ x ∈ xs, Fine n (f x)) : Fine (n + 1) (.list (xs.map f)) :=
  ⟨by rw [PyData.canLay0]; exact lay_all fun x hx => (h x hx).lay, by
    rw [PyData.depth]
    have := dep_all fun x hx => (h x hx).dep
    omega⟩
theorem fine_tuple {α : Type} {f : α → PyData} {xs : List α} {n : Nat} (h : ∀ x ∈ xs, Fine n (f x)) : Fine (n + 1) (.tuple (xs.map f)) :=
  ⟨by rw [PyData.canLay0]; exact lay_all fun x hx => (h x hx).lay, by
    rw [PyData.depth]
    have := dep_all fun x hx => (h x hx).dep
    omega⟩
theorem fine_lst {xs : List PyData} {n : Nat} (h : ∀ x ∈ xs, Fine n x) : Fine (n + 1) (.list xs) := by
  have q := fine_list (f := id) h
  rwa [List.map_id] at q
theorem fine_tup {xs : List PyData} {n : Nat} (h : ∀ x ∈ xs, Fine n x) : Fine (n + 1) (.tuple xs) := by
  have q := fine_tuple (f := id) h
  rwa [List.map_id] at q
theorem fine_words {ws : List Str} (h : ∀ x ∈ ws, Low x) : Fine 1 (eW ws) := fine_list fun x hx => fine_str (h x hx)
theorem fine_ties {ts : List (Str × Str)} (h : ∀ t ∈ ts, Low t.1 ∧ Low t.2) : Fine 2 (eT ts) := fine_list fun t ht => fine_tup fun x hx => by
  simp only [List.mem_cons, List.not_mem_nil, or_false] at hx
  rcases hx with rfl | rfl
  · exact fine_str (h t ht).1
  · exact fine_str (h t ht).2
theorem eqv_str {x : Str} {d : PyData} : PyData.eqv (.str x) d = true ↔ d = .str x := by
  cases d with
  | str y =>
    simp only [PyData.eqv, beq_iff_eq, PyData.str.injEq]
    exact eq_comm
  | _ => simp [PyData.eqv]
theorem eqv_strs : ∀ {ws : List Str} {ds : List PyData}, PyData.eqvAll (ws.map .str) ds = true ↔ ds = ws.map .str
  | [], [] => by simp [PyData.eqvAll]
  | [], d :: ds => by simp [PyData.eqvAll]
  | w :: ws, [] => by simp [PyData.eqvAll]
  | w :: ws, d :: ds => by
    rw [List.map_cons, PyData.eqvAll, Bool.and_eq_true, eqv_str, eqv_strs, List.cons.injEq]
theorem eqv_words {ws : List Str} {d : PyData} : PyData.eqv (eW ws) d = true ↔ d = eW ws := by
  show PyData.eqv (.list (ws.map .str)) d = true ↔ d = .list (ws.map .str)
  cases d with
  | list ds => rw [PyData.eqv, eqv_strs, PyData.list.injEq]
  | _ => simp [PyData.eqv]
theorem map_str_inj {a b : List Str} (h : a.map PyData.str = b.map .str) : a = b := by
  induction a generalizing b with
  | nil => cases b with
    | nil => rfl
    | cons y b => simp at h
  | cons x a ih => cases b with
    | nil => simp at h
    | cons y b =>
      simp only [List.map_cons, List.cons.injEq, PyData.str.injEq] at h
      rw [h.1, ih h.2]
theorem eW_inj {a b : List Str} (h : eW a = eW b) : a = b := map_str_inj (PyData.list.inj h)
theorem eqv_words2 {a b : List Str} : PyData.eqv (eW a) (eW b) = decide (a = b) := by
  by_cases h : a = b
  · subst h
    rw [decide_eq_true rfl]
    exact eqv_words.mpr rfl
  · rw [decide_eq_false h]
    cases e : PyData.eqv (eW a) (eW b) with
    | false => rfl
    | true => exact absurd (eW_inj (eqv_words.mp e)).symm h
theorem eqv_ties (ts : List (Str × Str)) : PyData.eqv (eT ts) (eT ts) = true := by
  show PyData.eqv (.list (ts.map eT2)) (.list (ts.map eT2)) = true
  rw [PyData.eqv]
  induction ts with
  | nil => rfl
  | cons t ts ih =>
    rw [List.map_cons, PyData.eqvAll, ih]
    simp [eT2, PyData.eqv, PyData.eqvAll]
end K41
namespace K41
open PySem PySem.Spec PyProof.Rows L2
section
variable {P : Program} {w : World} {K : PySem.W.Frag} {mg : Str → Option Value} {base : Heap} {C : Addr}
def rSpelt (ds : List PyData) (d : PyData) : Prop := ∃ x : Str, ds = [.str x] ∧ Word x ∧ d = .bool true
theorem c_is_spelt (Y : Env K mg C) : Def P w K mg base (Str.ofString "is_spelt") 1 ["value"] (spR K rSpelt) := by
  refine def_mk Y.t_is_spelt sc_is_spelt bb_is_spelt (fun vs H Q E h => ?_) (fun f cdv A outer s H vs Q E hr h => ?_)
  · obtain ⟨S, ds, d, _, h, ⟨x, rfl, _⟩, _⟩ := h
    exact DpAll.length h
  · obtain ⟨S, ds, d, hS, h, ⟨x, rfl, ⟨w1, w2, w3⟩, rfl⟩, k⟩ := h
    obtain ⟨v, rfl, h1⟩ := da1 h
    obtain rfl := dp_str h1
    refine ⟨_, (pss_cons (ps_if (PW.pt (pw_or (pt_not (pt_val (pe_callB (K_isi (K := K) rfl) (by rfl) Y.n_isinstance (by decide +kernel) (pa_cons (pv 0) (pa_cons (pe_bltn (u := .type "str") (v := .ty "str") rfl Y.n_str (by decide +kernel) rfl) pa_nil))))) (pw_or1 (pt_not (pt_chain op_lt op_le pe_int (pe_callB call_len_str (by rfl) Y.n_len (by decide +kernel) (pa_cons (pv 0) pa_nil)) (pe_LONGEST Y)))))) (pss_one (ps_ret pe_bl)) pss_nil)
    (pss_one (ps_ret (pe_callB (K_all (K := K) rfl rfl) (by rfl) Y.n_all (by decide +kernel) (pa_cons (pe_lc (own := [("letter", 1)]) rfl sc_is_spelt.nd (pi_str (pv 0)) (blkOk_by (own := [("letter", 1)]) (N := ["value", "letter"]) (sc := defScope s_is_spelt) (by decide +kernel)) (fun _ _ _ _ _ => (pg_name (i := 1) sc_is_spelt.nd rfl (Or.inl rfl))) (fun _ _ _ _ _ => pts_nil) (fun _ _ _ _ _ => (pe_chain op_le_str op_le_str pe_str (pv 1) pe_str))) pa_nil))))), ?_⟩
    refine ⟨_, rfl, _, _, _, _, true, rfl, .ty "str", .base (.str x), kit_ty (by decide +kernel), true, rfl, ?_⟩
    refine ⟨_, rfl, x, rfl, (by rw [sizeLine_eq]; omega), _, _, rfl, rfl, _, rfl, ?_⟩
    refine if_yes (decide_eq_true (by omega)) ?_
    refine ⟨_, _, rfl, rfl, _, rfl, ?_⟩
    refine if_no ?_ ?_
    · rw [decide_eq_true (by omega)]; rfl
    refine ⟨_, rfl, x, rfl, fun D hD => ?_⟩
    refine lcS (K := K) (items := x.cps.toList) (S := S) walk_str (fun _ => .bool true) hD hS (by have : x.cps.toList.length = x.length := rfl; omega) (fun _ _ => trivial) ?_ ?_
    · rintro i c x1 H1 H2 Yes hi kp hL ⟨rfl, c2, hc, rfl⟩ yes
      obtain ⟨l1, l2⟩ := w3 c (List.mem_of_getElem? hi)
      have e : c2 = c := by
        rw [← Array.getElem?_toList, hi] at hc
        exact (Option.some.inj hc).symm
      subst e
      have n1 : ¬ (⟨#[c2]⟩ : Str).cps.toList < (Str.ofString "a").cps.toList := by
        show ¬ [c2] < [97]
        intro z
        rcases List.cons_lt_cons_iff.mp z with z | ⟨_, z⟩
        · omega
        · cases z
      have n2 : ¬ (Str.ofString "z").cps.toList < (⟨#[c2]⟩ : Str).cps.toList := by
        show ¬ [122] < [c2]
        intro z
        rcases List.cons_lt_cons_iff.mp z with z | ⟨_, z⟩
        · omega
        · cases z
      refine ⟨rfl, _, rfl, _, _, rfl, rfl, _, rfl, if_yes (by rw [decide_eq_false n1]; rfl) ⟨_, _, rfl, rfl, ?_⟩⟩
      rw [decide_eq_false n2]
      exact yes _ _ .refl (.bl true)
    · intro H2 ys kp hL hl hle da dp
      have e := da_bools da
      rw [e] at hl
      refine ⟨D, _, rfl, .inl (.inl hl), ?_⟩
      rw [all_true]
      exact k _ H2 kp (.bl true)
def rWords (ds : List PyData) (d : PyData) : Prop := ∃ ws : List Str, ds = [eW ws] ∧ (∀ x ∈ ws, Word x) ∧ ws.length ≤ 1000 ∧ d = .bool true
theorem c_are_spelt (Y : Env K mg C) : Def P w K mg base (Str.ofString "are_spelt") 2 ["value"] (spR K rWords) := by
  refine def_mk Y.t_are_spelt sc_are_spelt bb_are_spelt (fun vs H Q E h => ?_) (fun f cdv A outer s H vs Q E hr h => ?_)
  · obtain ⟨S, ds, d, _, h, ⟨x, rfl, _⟩, _⟩ := h
    exact DpAll.length h
  · obtain ⟨S, ds, d, hS, h, ⟨ws, rfl, hw, hn, rfl⟩, k⟩ := h
    obtain ⟨v, rfl, h1⟩ := da1 h
    obtain ⟨a, rfl, hl⟩ := dp_words h1
    have hl0 : SqL K H a _ := Same.seq hid_le hl
    refine ⟨_, (pss_one (ps_ret (pe_and (pe_callB (K_isi (K := K) rfl) (by rfl) Y.n_isinstance (by decide +kernel) (pa_cons (pv 0) (pa_cons (pe_bltn (u := .type "list") (v := .ty "list") rfl Y.n_list (by decide +kernel) rfl) pa_nil))) (pe_one (pe_callB (K_all (K := K) rfl rfl) (by rfl) Y.n_all (by decide +kernel) (pa_cons (pe_lc (own := [("word", 1)]) rfl sc_are_spelt.nd (K_pil (K := K) rfl (pv 0)) (blkOk_by (own := [("word", 1)]) (N := ["value", "word"]) (sc := defScope s_are_spelt) (by decide +kernel)) (fun _ _ _ _ _ => (pg_name (i := 1) sc_are_spelt.nd rfl (Or.inl rfl))) (fun _ _ _ _ _ => pts_nil) (fun _ _ _ _ _ => (pe_def (c_is_spelt Y) (hr.mono (by decide)) (pa_cons (pv 1) pa_nil)))) pa_nil)))))), ?_⟩
    refine ⟨_, rfl, _, _, _, _, true, rfl, .ty "list", tyx_list hl0, kit_ty (by decide +kernel), true, rfl, iteT ?_⟩
    refine ⟨_, rfl, a, rfl, ⟨_, hl0⟩, fun D hD => ?_⟩
    refine lcS (K := K) (items := ws) (S := S) walkW (fun _ => .bool true) hD hS (by omega) (fun H1 kp => kp.same.seq hl0) ?_ ?_
    · rintro i x x1 H1 H2 Yes hi kp hL ⟨rfl, y⟩ yes
      obtain rfl := y x hi
      exact ⟨rfl, _, rfl, D :: S, [.str x], _, hL, .cons (.str x) .nil, ⟨x, rfl, hw x (List.mem_of_getElem? hi), rfl⟩, fun v H3 kp3 hv => yes v H3 kp3 hv⟩
    · intro H2 ys kp hL hl2 hle da dp
      have e := da_bools da
      rw [e] at hl2
      refine ⟨D, _, rfl, .inl (.inl hl2), ?_⟩
      rw [all_true]
      exact k _ H2 kp (.bl true)
def rRising (ds : List PyData) (d : PyData) : Prop := ∃ ws : List Str, ds = [eW ws] ∧ ws.Pairwise Lt ∧ ws.length ≤ 1000 ∧ d = .bool true
theorem c_is_rising (Y : Env K mg C) : Def P w K mg base (Str.ofString "is_rising") 1 ["things"] (spR K rRising) := by
  refine def_mk Y.t_is_rising sc_is_rising bb_is_rising (fun vs H Q E h => ?_) (fun f cdv A outer s H vs Q E hr h => ?_)
  · obtain ⟨S, ds, d, _, h, ⟨x, rfl, _⟩, _⟩ := h
    exact DpAll.length h
  · obtain ⟨S, ds, d, hS, h, ⟨ws, rfl, hw, hn, rfl⟩, k⟩ := h
    obtain ⟨v, rfl, h1⟩ := da1 h
    obtain ⟨a, rfl, hl⟩ := dp_words h1
    have hl0 : SqL K H a _ := Same.seq hid_le hl
    refine ⟨_, (pss_one (ps_ret (pe_callB (K_all (K := K) rfl rfl) (by rfl) Y.n_all (by decide +kernel) (pa_cons (pe_lc (own := [("at", 1)]) rfl sc_is_rising.nd (pi_range2 rfl Y.n_range (pa_cons pe_int (pa_cons (pe_callB (K_len (K := K) rfl) (by rfl) Y.n_len (by decide +kernel) (pa_cons (pv 0) pa_nil)) pa_nil))) (blkOk_by (own := [("at", 1)]) (N := ["things", "at"]) (sc := defScope s_is_rising) (by decide +kernel)) (fun _ _ _ _ _ => (pg_name (i := 1) sc_is_rising.nd rfl (Or.inl rfl))) (fun _ _ _ _ _ => pts_nil) (fun _ _ _ _ _ => (pe_cmpR op_lt_str (pe_ix (K_ixL (K := K) rfl) (pv 0) (pe_op op_sub (pv 1) pe_int) (fun _ _ => rfl)) (pe_ix (K_ixL (K := K) rfl) (pv 0) (pv 1) (fun _ _ => rfl)) (nomark _)))) pa_nil)))), ?_⟩
    refine ⟨_, rfl, a, _, rfl, .inl hl0, _, _, rfl, (by rw [List.length_map]; omega), fun D hD => ?_⟩
    rw [List.length_map]
    refine lcS (K := K) (S := S) walkR (fun _ => .bool true) hD hS (by rw [List.length_range]; omega) (fun H1 kp => trivial) ?_ ?_
    · rintro i x x1 H1 H2 Yes hi kp hL ⟨rfl, rfl⟩ yes
      obtain ⟨rfl, hi⟩ := range_at hi
      have hj : x + 1 < ws.length := by omega
      have g1 : (ws.map V.str)[x]? = some (.str ws[x]) := by rw [List.getElem?_map, List.getElem?_eq_getElem (by omega)]; rfl
      have g2 : (ws.map V.str)[x + 1]? = some (.str ws[x + 1]) := by rw [List.getElem?_map, List.getElem?_eq_getElem (by omega)]; rfl
      refine ⟨rfl, _, rfl, _, rfl, _, _, rfl, rfl, a, _, _, _, rfl, rfl, kp.same.seq hl0, (show atI _ (1 + (x : Int) - 1) = _ by rw [show 1 + (x : Int) - 1 = (x : Int) by omega]; exact atI_nat g1), _, rfl, _, rfl, a, _, _, _, rfl, rfl, kp.same.seq hl0,
        (show atI _ (1 + (x : Int)) = _ by rw [show 1 + (x : Int) = ((x + 1 : Nat) : Int) by omega]; exact atI_nat g2), _, _, rfl, rfl, ?_⟩
      have q : Lt ws[x] ws[x + 1] := (List.pairwise_iff_getElem.mp hw) x (x + 1) (by omega) hj (by omega)
      rw [decide_eq_true q]
      exact yes _ _ .refl (.bl true)
    · intro H2 ys kp hL hl2 hle da dp
      have e := da_bools da
      rw [e] at hl2
      refine ⟨D, _, rfl, .inl (.inl hl2), ?_⟩
      rw [all_true]
      exact k _ H2 kp (.bl true)
def rRisingW (ds : List PyData) (d : PyData) : Prop := ∃ ws : List Str, ds = [eW ws] ∧ (∀ x ∈ ws, Word x) ∧ ws.Pairwise Lt ∧ ws.length ≤ 1000 ∧ d = .bool true
theorem c_are_rising_words (Y : Env K mg C) : Def P w K mg base (Str.ofString "are_rising_words") 3 ["value"] (spR K rRisingW) := by
  refine def_mk Y.t_are_rising_words sc_are_rising_words bb_are_rising_words (fun vs H Q E h => ?_) (fun f cdv A outer s H vs Q E hr h => ?_)
  · obtain ⟨S, ds, d, _, h, ⟨x, rfl, _⟩, _⟩ := h
    exact DpAll.length h
  · obtain ⟨S, ds, d, hS, h, ⟨ws, rfl, hw, hp, hn, rfl⟩, k⟩ := h
    obtain ⟨v, rfl, h1⟩ := da1 h
    refine ⟨_, (pss_one (ps_ret (pe_and (pe_def (c_are_spelt Y) (hr.mono (by decide)) (pa_cons (pv 0) pa_nil)) (pe_one (pe_def (c_is_rising Y) (hr.mono (by decide)) (pa_cons (pv 0) pa_nil)))))), ?_⟩
    refine ⟨_, rfl, S, [eW ws], _, hS, .cons h1 .nil, ⟨ws, rfl, hw, hn, rfl⟩, fun v1 H1 kp hv => ?_⟩
    obtain rfl := dp_bl hv
    refine ⟨true, rfl, iteT ?_⟩
    exact ⟨_, rfl, S, [eW ws], _, kp.live hS, .cons (Dp.mono kp.hid0 h1) .nil, ⟨ws, rfl, hp, hn, rfl⟩, fun v1 H2 kp2 hv => k _ _ (kp.trans kp2) hv⟩
def rUnlike (ds : List PyData) (d : PyData) : Prop := ∃ ws : List Str, ds = [eW ws] ∧ (∀ x ∈ ws, Word x) ∧ ws.Nodup ∧ 0 < ws.length ∧ ws.length < 64 ∧ d = .bool true
theorem c_are_unlike_words (Y : Env K mg C) : Def P w K mg base (Str.ofString "are_unlike_words") 3 ["value"] (spR K rUnlike) := by
  refine def_mk Y.t_are_unlike_words sc_are_unlike_words bb_are_unlike_words (fun vs H Q E h => ?_) (fun f cdv A outer s H vs Q E hr h => ?_)
  · obtain ⟨S, ds, d, _, h, ⟨x, rfl, _⟩, _⟩ := h
    exact DpAll.length h
  · obtain ⟨S, ds, d, hS, h, ⟨ws, rfl, hw, hp, h0, hn, rfl⟩, k⟩ := h
    obtain ⟨v, rfl, h1⟩ := da1 h
    refine ⟨_, (pss_one (ps_ret (pe_and (pe_def (c_are_spelt Y) (hr.mono (by decide)) (pa_cons (pv 0) pa_nil)) (pe_one (pe_chain op_lt op_eq pe_int (pe_callB (K_len (K := K) rfl) (by rfl) Y.n_len (by decide +kernel) (pa_cons (pv 0) pa_nil)) (K_lenW (K := K) rfl rfl (by rfl) Y.n_len (by rfl) Y.n_set (pv 0))))))), ?_⟩
    refine ⟨_, rfl, S, [eW ws], _, hS, .cons h1 .nil, ⟨ws, rfl, hw, by omega, rfl⟩, fun v1 H1 kp hv => ?_⟩
    obtain rfl := dp_bl hv
    obtain ⟨a, rfl, hl⟩ := dp_words (Dp.mono kp.hid0 h1)
    have hl0 : SqL K H1 a _ := Same.seq hid_le hl
    refine ⟨true, rfl, iteT ?_⟩
    refine ⟨_, rfl, a, _, rfl, .inl hl0, _, _, rfl, rfl, _, rfl, if_yes (decide_eq_true (by rw [List.length_map]; omega)) ?_⟩
    refine ⟨_, rfl, a, ws, rfl, hl0, hp, hn, rfl, ?_⟩
    rw [decide_eq_true (by rw [List.length_map])]
    exact k _ _ kp (.bl true)
def TieOk (ws : List Str) (t : Str × Str) : Prop := Word t.1 ∧ Word t.2 ∧ Lt t.1 t.2 ∧ t.1 ∈ ws ∧ t.2 ∈ ws
def rTie (ds : List PyData) (d : PyData) : Prop := ∃ (ws : List Str) (t : Str × Str), ds = [eW ws, eT2 t] ∧ TieOk ws t ∧ d = .bool true
theorem c_is_tie (Y : Env K mg C) : Def P w K mg base (Str.ofString "is_tie") 2 ["lamps", "value"] (spR K rTie) := by
  refine def_mk Y.t_is_tie sc_is_tie bb_is_tie (fun vs H Q E h => ?_) (fun f cdv A outer s H vs Q E hr h => ?_)
  · obtain ⟨S, ds, d, _, h, ⟨x, t, rfl, _⟩, _⟩ := h
    exact DpAll.length h
  · obtain ⟨S, ds, d, hS, h, ⟨ws, t, rfl, ⟨w1, w2, w3, w4, w5⟩, rfl⟩, k⟩ := h
    obtain ⟨v, u, rfl, h1, h2⟩ := da2 h
    obtain ⟨a, rfl, hl⟩ := dp_words h1
    obtain ⟨b, rfl, ht⟩ := dp_tie h2
    have hl0 : SqL K H a _ := Same.seq hid_le hl
    have ht0 : SqT K H b _ := Same.tup hid_le ht
    refine ⟨_, (pss_cons (ps_if (PW.pt (pw_or (pt_not (pt_val (pe_callB (K_isi (K := K) rfl) (by rfl) Y.n_isinstance (by decide +kernel) (pa_cons (pv 1) (pa_cons (pe_bltn (u := .type "tuple") (v := .ty "tuple") rfl Y.n_tuple (by decide +kernel) rfl) pa_nil))))) (pw_or (pt_cmpR op_ne (pe_callB (K_len (K := K) rfl) (by rfl) Y.n_len (by decide +kernel) (pa_cons (pv 1) pa_nil)) pe_int (nomark _)) (pw_or1 (pt_not (pt_val (pe_callB (K_all (K := K) rfl rfl) (by rfl) Y.n_all (by decide +kernel) (pa_cons (pe_lc (own := [("lamp", 2)]) rfl sc_is_tie.nd (K_pit (K := K) rfl (pv 1)) (blkOk_by (own := [("lamp", 2)]) (N := ["lamps", "value", "lamp"]) (sc := defScope s_is_tie) (by decide +kernel)) (fun _ _ _ _ _ => (pg_name (i := 2) sc_is_tie.nd rfl (Or.inl rfl))) (fun _ _ _ _ _ => pts_nil) (fun _ _ _ _ _ => (pe_def (c_is_spelt Y) (hr.mono (by decide)) (pa_cons (pv 2) pa_nil)))) pa_nil)))))))) (pss_one (ps_ret pe_bl)) pss_nil)
    (pss_one (ps_ret (pe_and (pe_cmpR op_lt_str (pe_ix (K_ixT (K := K) rfl) (pv 1) pe_int (fun _ _ => rfl)) (pe_ix (K_ixT (K := K) rfl) (pv 1) pe_int (fun _ _ => rfl)) (nomark _)) (pe_and (pe_cmpR (K_in_seq (K := K) rfl) (pe_ix (K_ixT (K := K) rfl) (pv 1) pe_int (fun _ _ => rfl)) (pv 0) rfl) (pe_one (pe_cmpR (K_in_seq (K := K) rfl) (pe_ix (K_ixT (K := K) rfl) (pv 1) pe_int (fun _ _ => rfl)) (pv 0) rfl))))))), ?_⟩
    refine ⟨_, rfl, _, _, _, _, true, rfl, .ty "tuple", tyx_tup ht0, kit_ty (by decide +kernel), true, rfl, ?_⟩
    refine ⟨_, rfl, b, _, rfl, .inr ht0, rfl, _, rfl, if_no (by simp) ?_⟩
    refine ⟨_, rfl, b, rfl, ⟨_, ht0⟩, fun D hD => ?_⟩
    refine lcS (K := K) (items := [t.1, t.2]) (S := S) walkWT (fun _ => .bool true) hD hS (by show 2 ≤ 100000; omega) (fun H1 kp => Same.tup kp.same ht0) ?_ ?_
    · rintro i x x1 H1 H2 Yes hi kp hL ⟨rfl, y⟩ yes
      obtain rfl := y x hi
      have hx : Word x := by
        have := List.mem_of_getElem? hi
        simp only [List.mem_cons, List.not_mem_nil, or_false] at this
        rcases this with rfl | rfl
        · exact w1
        · exact w2
      exact ⟨rfl, _, rfl, D :: S, [.str x], _, hL, .cons (.str x) .nil, ⟨x, rfl, hx, rfl⟩, fun v H3 kp3 hv => yes v H3 kp3 hv⟩
    · intro H2 ys kp hL hl2 hle da dp
      have e := da_bools da
      rw [e] at hl2
      refine ⟨D, _, rfl, .inl (.inl hl2), ?_⟩
      rw [all_true]
      have ht2 : SqT K H2 b _ := Same.tup kp.same ht0
      have hl3 : SqL K H2 a _ := kp.same.seq hl0
      refine ⟨true, rfl, ?_⟩
      refine ⟨_, rfl, b, _, _, _, rfl, rfl, ht2, at0, _, rfl, b, _, _, _, rfl, rfl, ht2, at1, _, _, rfl, rfl, _, rfl, if_yes (decide_eq_true w3) ?_⟩
      refine ⟨_, rfl, b, _, _, _, rfl, rfl, ht2, at0, _, rfl, a, _, rfl, .inl hl3, rfl, flat_strs _, _, rfl, if_yes (by rw [inV_str]; exact decide_eq_true w4) ?_⟩
      refine ⟨_, rfl, b, _, _, _, rfl, rfl, ht2, at1, _, rfl, a, _, rfl, .inl hl3, rfl, flat_strs _, ?_⟩
      have q : (if false = true then !inV (.str t.2) (ws.map V.str) else inV (.str t.2) (ws.map V.str)) = true := by
        rw [if_neg (by decide), inV_str]
        exact decide_eq_true w5
      rw [q]
      exact k _ _ kp (.bl true)
end
end K41
namespace K41
open PySem PySem.Spec PyProof.Rows L2 PySem.W
section
variable {P : Program} {w : World} {K : PySem.W.Frag} {mg : Str → Option Value} {base : Heap} {C : Addr}
theorem da_ties {H : Hp} : ∀ {ts : List (Str × Str)} {xs : List L2.V}, DpAll K H xs (ts.map eT2) → ∃ ks : List (Addr × List Key), xs = ks.map (fun p => L2.V.ref p.1) ∧ (∀ p ∈ ks, SqT K H p.1 (p.2.map kV)) ∧ ks.map (·.2) = ts.map fun t => [Sum.inr t.1, Sum.inr t.2]
  | [], xs, h => ⟨[], by rw [da_nil h]; rfl, by simp, rfl⟩
  | t :: ts, xs, h => by
    obtain ⟨v, us, rfl, h1, h2⟩ := da_cons h
    obtain ⟨a, rfl, ht⟩ := dp_tie h1
    obtain ⟨ks, rfl, h3, h4⟩ := da_ties h2
    refine ⟨(a, [Sum.inr t.1, Sum.inr t.2]) :: ks, rfl, fun p hp => ?_, ?_⟩
    · rcases List.mem_cons.mp hp with rfl | hp
      · exact ht
      · exact h3 p hp
    · rw [List.map_cons, List.map_cons, h4]
def rTies (ds : List PyData) (d : PyData) : Prop := ∃ (ws : List Str) (ts : List (Str × Str)), ds = [eW ws, eT ts] ∧ (∀ t ∈ ts, TieOk ws t) ∧ ts.Nodup ∧ ts.length < 64 ∧ d = .bool true
theorem c_are_ties (Y : Env K mg C) : Def P w K mg base (Str.ofString "are_ties") 3 ["lamps", "value"] (spR K rTies) := by
  refine def_mk Y.t_are_ties sc_are_ties bb_are_ties (fun vs H Q E h => ?_) (fun f cdv A outer s H vs Q E hr h => ?_)
  · obtain ⟨S, ds, d, _, h, ⟨x, t, rfl, _⟩, _⟩ := h
    exact DpAll.length h
  · obtain ⟨S, ds, d, hS, h, ⟨ws, ts, rfl, hok, hnd, hfew, rfl⟩, k⟩ := h
    obtain ⟨v, u, rfl, h1, h2⟩ := da2 h
    obtain ⟨b, xs, rfl, ht, hda⟩ := dp_list h2
    have ht0 : SqL K H b _ := Same.seq hid_le ht
    refine ⟨_, (pss_cons (ps_if (PW.pt (pw_or (pt_not (pt_val (pe_callB (K_isi (K := K) rfl) (by rfl) Y.n_isinstance (by decide +kernel) (pa_cons (pv 1) (pa_cons (pe_bltn (u := .type "list") (v := .ty "list") rfl Y.n_list (by decide +kernel) rfl) pa_nil))))) (pw_or1 (pt_not (pt_val (pe_callB (K_all (K := K) rfl rfl) (by rfl) Y.n_all (by decide +kernel) (pa_cons (pe_lc (own := [("tie", 2)]) rfl sc_are_ties.nd (K_pil (K := K) rfl (pv 1)) (blkOk_by (own := [("tie", 2)]) (N := ["lamps", "value", "tie"]) (sc := defScope s_are_ties) (by decide +kernel)) (fun _ _ _ _ _ => (pg_name (i := 2) sc_are_ties.nd rfl (Or.inl rfl))) (fun _ _ _ _ _ => pts_nil) (fun _ _ _ _ _ => (pe_def (c_is_tie Y) (hr.mono (by decide)) (pa_cons (pv 0) (pa_cons (pv 2) pa_nil))))) pa_nil))))))) (pss_one (ps_ret pe_bl)) pss_nil)
    (pss_one (ps_ret (pe_cmpR op_eq (K_lenQ (K := K) rfl rfl (hu20 hr) (by rfl) Y.n_len (by rfl) Y.n_set (pv 1)) (pe_callB (K_len (K := K) rfl) (by rfl) Y.n_len (by decide +kernel) (pa_cons (pv 1) pa_nil)) (nomark _))))), ?_⟩
    refine ⟨_, rfl, _, _, _, _, true, rfl, .ty "list", tyx_list ht0, kit_ty (by decide +kernel), true, rfl, ?_⟩
    refine ⟨_, rfl, b, rfl, ⟨_, ht0⟩, fun D hD => ?_⟩
    refine lcS (K := K) (items := ts) (S := S) (walkD hda) (fun _ => .bool true) hD hS (by omega) (fun H1 kp => kp.same.seq ht0) ?_ ?_
    · rintro i t x1 H1 H2 Yes hi kp hL ⟨rfl, y⟩ yes
      have e : hid (D :: S) H = hid S H := hid_cons hD
      have m : Same (hid S H) (hid (D :: S) H2) := by
        rw [← e]
        exact kp.hid0
      exact ⟨rfl, _, rfl, _, rfl, D :: S, [eW ws, eT2 t], _, hL, .cons (Dp.mono m h1) (.cons (Dp.mono m (y t hi)) .nil), ⟨ws, t, rfl, hok t (List.mem_of_getElem? hi), rfl⟩, fun v H3 kp3 hv => yes v H3 kp3 hv⟩
    · intro H2 ys kp hL hl2 hle da dp
      have e := da_bools da
      rw [e] at hl2
      refine ⟨D, _, rfl, .inl (.inl hl2), ?_⟩
      rw [all_true]
      have ht2 : SqL K H2 b _ := kp.same.seq ht0
      obtain ⟨ks, rfl, k1, k2⟩ := da_ties (DpAll.mono (hid_le.trans kp.same) hda)
      have hn : ks.length = ts.length := by
        have q := congrArg List.length k2
        rwa [List.length_map, List.length_map] at q
      refine ⟨true, rfl, ?_⟩
      refine ⟨_, rfl, b, ks, rfl, ht2, k1, ?_, by omega, _, rfl, b, _, rfl, .inl ht2, rfl, ?_⟩
      · rw [k2]
        refine List.pairwise_map.mpr (hnd.imp ?_)
        intro x y hne e
        refine hne ?_
        have e' : ([Sum.inr x.1, Sum.inr x.2] : List Key) = [Sum.inr y.1, Sum.inr y.2] := e
        simp only [List.cons.injEq, Sum.inr.injEq, and_true] at e'
        exact Prod.ext e'.1 e'.2
      · rw [List.length_map, decide_eq_true rfl]
        exact k _ _ kp (.bl true)
def spWishes (K : PySem.W.Frag) : Sp := fun vs H Q _ => ∃ (S : List Addr) (a d : Addr) (ws : List Str) (wish : Str → Str), vs = [.ref a, .ref d] ∧ Live S H ∧ SqL K (hid S H) a (ws.map L2.V.str) ∧ hid S H d = some (.dK (fk ws fun l => .str (wish l))) ∧
  (∀ l ∈ ws, wish l ∈ (["odd", "even", "stuck"] : List Str)) ∧ ws.length ≤ 1000 ∧ ∀ H', Kp [] H H' → Q (.bl true) H'
theorem c_are_wishes (Y : Env K mg C) : Def P w K mg base (Str.ofString "are_wishes") 1 ["lamps", "value"] (spWishes K) := by
  refine def_mk Y.t_are_wishes sc_are_wishes bb_are_wishes (fun vs H Q E h => ?_) (fun f cdv A outer s H vs Q E hr h => ?_)
  · obtain ⟨S, a, d, ws, wish, rfl, _⟩ := h
    rfl
  · obtain ⟨S, a, d, ws, wish, rfl, hS, h1, h2, hw, hn, k⟩ := h
    have hu := hu_of hr
    have hl0 : SqL K H a _ := Same.seq hid_le h1
    have hd0 : H d = some _ := hid_le _ _ h2
    refine ⟨_, (pss_cons (ps_if (PW.pt (pw_or (pt_not (pt_val (pe_callB (K_isi (K := K) rfl) (by rfl) Y.n_isinstance (by decide +kernel) (pa_cons (pv 1) (pa_cons (pe_bltn (u := .type "dict") (v := .ty "dict") rfl Y.n_dict (by decide +kernel) rfl) pa_nil))))) (pw_or (pt_cmpR op_ne (pe_callB call_lenD (by rfl) Y.n_len (by decide +kernel) (pa_cons (pv 1) pa_nil)) (pe_callB (K_len (K := K) rfl) (by rfl) Y.n_len (by decide +kernel) (pa_cons (pv 0) pa_nil)) (nomark _)) (pw_or1 (pt_not (pt_val (pe_callB (K_all (K := K) rfl rfl) (by rfl) Y.n_all (by decide +kernel) (pa_cons (pe_lc (own := [("lamp", 2)]) rfl sc_are_wishes.nd (K_pil (K := K) rfl (pv 0)) (blkOk_by (own := [("lamp", 2)]) (N := ["lamps", "value", "lamp"]) (sc := defScope s_are_wishes) (by decide +kernel)) (fun _ _ _ _ _ => (pg_name (i := 2) sc_are_wishes.nd rfl (Or.inl rfl))) (fun _ _ _ _ _ => pts_nil) (fun _ _ _ _ _ => (pe_cmp (pc_din (hu_of hr) (pv 2) (pv 1))))) pa_nil)))))))) (pss_one (ps_ret pe_bl)) pss_nil)
    (pss_one (ps_ret (pe_callB (K_all (K := K) rfl rfl) (by rfl) Y.n_all (by decide +kernel) (pa_cons (pe_lc (own := [("lamp", 2)]) rfl sc_are_wishes.nd (K_pil (K := K) rfl (pv 0)) (blkOk_by (own := [("lamp", 2)]) (N := ["lamps", "value", "lamp"]) (sc := defScope s_are_wishes) (by decide +kernel)) (fun _ _ _ _ _ => (pg_name (i := 2) sc_are_wishes.nd rfl (Or.inl rfl))) (fun _ _ _ _ _ => pts_nil) (fun _ _ _ _ _ => (pe_and (pe_callB (K_isi (K := K) rfl) (by rfl) Y.n_isinstance (by decide +kernel) (pa_cons (pe_dget (hu_of hr) (pv 1) (pv 2) (fun _ _ => rfl)) (pa_cons (pe_bltn (u := .type "str") (v := .ty "str") rfl Y.n_str (by decide +kernel) rfl) pa_nil))) (pe_one (pe_cmpR (K_in_seq (K := K) rfl) (pe_dget (hu_of hr) (pv 1) (pv 2) (fun _ _ => rfl)) (K_WISHES Y rfl rfl) rfl))))) pa_nil))))), ?_⟩
    refine ⟨_, rfl, _, _, _, _, true, rfl, .ty "dict", .base (.dK hd0), kit_ty (by decide +kernel), true, rfl, ?_⟩
    refine ⟨_, rfl, d, _, rfl, hd0, _, rfl, a, _, rfl, .inl hl0, rfl, _, rfl, if_no (by rw [fk_len, List.length_map, decide_eq_true rfl]; rfl) ?_⟩
    refine ⟨_, rfl, a, rfl, ⟨_, hl0⟩, fun D hD => ?_⟩
    refine lcS (K := K) (items := ws) (S := S) walkW (fun _ => .bool true) hD hS (by omega) (fun H1 kp => kp.same.seq hl0) ?_ ?_
    · rintro i x x1 H1 H2 Yes hi kp hL ⟨rfl, y⟩ yes
      obtain rfl := y x hi
      refine ⟨rfl, _, rfl, _, rfl, d, _, rfl, DGet.k (k := Sum.inr x) (kp.same _ _ hd0), ?_⟩
      rw [valV_fk (List.mem_of_getElem? hi)]
      exact yes _ _ .refl (.bl true)
    · intro H2 ys kp hL hl2 hle da dp
      have e := da_bools da
      rw [e] at hl2
      refine ⟨D, _, rfl, .inl (.inl hl2), ?_⟩
      rw [all_true]
      refine ⟨true, rfl, ?_⟩
      have hl3 : SqL K H2 a _ := kp.same.seq hl0
      have hd3 : H2 d = some _ := kp.same _ _ hd0
      refine ⟨_, rfl, a, rfl, ⟨_, hl3⟩, fun D2 hD2 => ?_⟩
      refine lcS (K := K) (items := ws) (S := S) walkW (fun _ => .bool true) hD2 hL (by omega) (fun H1 kp => kp.same.seq hl3) ?_ ?_
      · rintro i x x1 H4 H5 Yes hi kp4 hL ⟨rfl, y⟩ yes
        obtain rfl := y x hi
        have hx := List.mem_of_getElem? hi
        have hd4 := kp4.same _ _ hd3
        have g : DGet H5 d (.str x) (some (.str (wish x))) := by
          have q := DGet.k (k := Sum.inr x) hd4
          rw [valV_fk hx] at q
          exact q
        refine ⟨rfl, _, rfl, _, rfl, d, _, rfl, g, _, _, _, _, true, rfl, .ty "str", .base (.str _), kit_ty (by decide +kernel), true, rfl, iteT ?_⟩
        refine ⟨_, rfl, _, rfl, d, _, rfl, g, fun wa hwa => ⟨wa, _, rfl, .inr (hwa _), rfl, flat_strs ["odd", "even", "stuck"], ?_⟩⟩
        have q : (if false = true then !inV (.str (wish x)) ((["odd", "even", "stuck"] : List Str).map L2.V.str) else inV (.str (wish x)) ((["odd", "even", "stuck"] : List Str).map L2.V.str)) = true := by
          rw [if_neg (by decide), inV_str]
          exact decide_eq_true (hw x hx)
        have q2 := yes (.bl (if false = true then !inV (.str (wish x)) ((["odd", "even", "stuck"] : List Str).map L2.V.str) else inV (.str (wish x)) ((["odd", "even", "stuck"] : List Str).map L2.V.str))) H5 .refl (by rw [q]; exact .bl true)
        exact q2
      · intro H3 ys kp3 hL hl2 hle da dp
        have e := da_bools da
        rw [e] at hl2
        refine ⟨D2, _, rfl, .inl (.inl hl2), ?_⟩
        rw [all_true]
        exact k _ (kp.trans kp3)
def spNear (K : PySem.W.Frag) : Sp := fun vs H Q _ => ∃ (S : List Addr) (u v : L2.V) (ws : List Str) (ts : List (Str × Str)), vs = [u, v] ∧ Live S H ∧ Dp K (hid S H) u (eW ws) ∧ Dp K (hid S H) v (eT ts) ∧ ws.Nodup ∧ (∀ t ∈ ts, t.1 ∈ ws ∧ t.2 ∈ ws) ∧ ws.length ≤ 1000 ∧ ts.length ≤ 1000 ∧
  ∀ d H', Kp [] H H' → H d = none → NearAt K (hid S H') d ws ts → Q (.ref d) H'
theorem c_near_by (Y : Env K mg C) : Def P w K mg base (Str.ofString "near_by") 1 ["lamps", "ties"] (spNear K) := by
  refine def_mk Y.t_near_by sc_near_by bb_near_by (fun vs H Q E h => ?_) (fun f cdv A outer s H vs Q E hr h => ?_)
  · obtain ⟨S, u, v, ws, ts, rfl, _⟩ := h
    rfl
  · obtain ⟨S, u, v, ws, ts, rfl, hS, h1, h2, hnd, hin, hn, hm, k⟩ := h
    have hu := hu_of hr
    obtain ⟨a, rfl, hl⟩ := dp_words h1
    have hl0 : SqL K H a _ := Same.seq hid_le hl
    obtain ⟨b, xs, rfl, ht, hda⟩ := dp_list h2
    have ht0 : SqL K H b _ := Same.seq hid_le ht
    refine ⟨_, (pss_cons (ps_set (i := 2) sc_near_by.nd rfl (Or.inr rfl) (pe_dc (own := [("lamp", 5)]) rfl sc_near_by.nd (K_pil (K := K) rfl (pv 0)) (blkOk_by (own := [("lamp", 5)]) (N := ["lamps", "ties", "found", "one", "other", "lamp"]) (sc := defScope s_near_by) (by decide +kernel)) (fun _ _ _ _ _ => (pg_name (i := 5) sc_near_by.nd rfl (Or.inl rfl))) (fun _ _ _ _ _ => pts_nil) (fun _ _ _ _ _ => (pv 5)) (fun _ _ _ _ _ => (pe_lst pa_nil))))
    (pss_cons (ps_for PassesOwn.never rfl (K_pil (K := K) rfl (pv 1)) (K_pgtup (K := K) (n := 2) rfl rfl (pgs_cons (pg_name (i := 3) sc_near_by.nd rfl (Or.inl rfl)) (pgs_cons (pg_name (i := 4) sc_near_by.nd rfl (Or.inl rfl)) pgs_nil)))
    (pss_cons (ps_expr (K_bm (K := K) rfl PySem.F.plainAttrs_list PySem.F.slot_list_append PySem.F.type_list_append mt_append (pe_dget (hu_of hr) (pv 2) (pv 3) (fun _ _ => rfl)) (pa_cons (pv 4) pa_nil)))
    (pss_one (ps_expr (K_bm (K := K) rfl PySem.F.plainAttrs_list PySem.F.slot_list_append PySem.F.type_list_append mt_append (pe_dget (hu_of hr) (pv 2) (pv 4) (fun _ _ => rfl)) (pa_cons (pv 3) pa_nil))))))
    (pss_one (ps_ret (pe_dc (own := [("lamp", 5)]) rfl sc_near_by.nd (K_pil (K := K) rfl (pv 0)) (blkOk_by (own := [("lamp", 5)]) (N := ["lamps", "ties", "found", "one", "other", "lamp"]) (sc := defScope s_near_by) (by decide +kernel)) (fun _ _ _ _ _ => (pg_name (i := 5) sc_near_by.nd rfl (Or.inl rfl))) (fun _ _ _ _ _ => pts_nil) (fun _ _ _ _ _ => (pv 5)) (fun _ _ _ _ _ => (pe_callB (K_sort (K := K) rfl (hu100 hr)) (by rfl) Y.n_sorted (by decide +kernel) (pa_cons (pe_dget (hu_of hr) (pv 2) (pv 5) (fun _ _ => rfl)) pa_nil)))))))), ?_⟩
    refine ⟨_, rfl, a, rfl, ⟨_, hl0⟩, fun D hD => ?_⟩
    refine dc_it walkW (fun i H' => ∃ na : Str → Addr, Kp [] H H' ∧ H' D = some (.dK (fk (ws.take i) fun l => .ref (na l))) ∧ Piles H H' (ws.take i) na fun _ => []) ⟨fun _ => 0, kp_new hD, upd_same, ⟨by simp, by simp, by simp⟩⟩ (fun i H' _ ⟨_, kp, _⟩ => kp.same.seq hl0) ?_ ?_
    · rintro i x H0 H1 hi ⟨na, kp, hd, hp⟩ ⟨rfl, y⟩
      have hg := List.getElem?_eq_getElem hi
      obtain rfl := y _ hg
      have hni := notin_take hnd hg
      refine ⟨rfl, _, rfl, Nat.zero_le _, fun p np => ?_⟩
      have hpD : D ≠ p := ne_of_none hd np
      refine ⟨_, Sum.inr ws[i], rfl, by rw [upd_ne hpD]; exact hd, by rw [fk_len, List.length_take, sizeLine_eq]; omega, fun m => if m = ws[i] then p else na m, (kp.put (kp.free np)).put hD, ?_, ?_⟩
      · rw [upd_same, fk_step hni, take_snoc' hg]
      · rw [take_snoc' hg]
        refine (hp.snoc hni np (kp.free np)).upd fun l hl e => ?_
        have q := (hp.snoc hni np (kp.free np)).each l hl
        rw [e, upd_ne hpD, hd] at q
        cases q
    · rintro H1 ⟨na, kp, hd, hp⟩
      rw [List.take_length] at hd hp
      have hq : ∀ {H' : Hp} {cs : Str → List Str}, H' D = some (.dK (fk ws fun l => .ref (na l))) → Piles H H' ws na cs → ∀ l ∈ ws, na l ≠ D := fun h1 h2 l hl e => by
        have q := h2.each l hl
        rw [e, h1] at q
        cases q
      refine ⟨_, rfl, b, rfl, ⟨_, kp.same.seq ht0⟩, ?_⟩
      refine for_it (walkD hda) (fun i σ H' => ∃ o1 o2 : Option L2.V, σ = [some (.ref a), some (.ref b), some (.ref D), o1, o2, none] ∧ Kp [] H H' ∧ H' D = some (.dK (fk ws fun l => .ref (na l))) ∧ Piles H H' ws na (nearU (ts.take i)))
        ⟨none, none, rfl, kp, hd, hp⟩ (fun i σ H' _ ⟨_, _, _, kp, _⟩ => kp.same.seq ht0) ?_ ?_
      · rintro i x σ H2 H3 hi ⟨o1, o2, rfl, kp2, hd2, hp2⟩ ⟨rfl, y⟩
        have hg := List.getElem?_eq_getElem hi
        obtain ⟨q, rfl, hqt⟩ := dp_tie (y _ hg)
        obtain ⟨m1, m2⟩ := hin _ (List.getElem_mem hi)
        have hqt3 : SqT K H3 q _ := Same.tup (hid_le.trans kp2.same) hqt
        have g1 : ∀ {H' : Hp} {l : Str}, l ∈ ws → H' D = some (.dK (fk ws fun l => .ref (na l))) → DGet H' D (.str l) (some (.ref (na l))) := fun {H' l} hl h => by
          have q := DGet.k (k := Sum.inr l) h
          rw [valV_fk hl] at q
          exact q
        have lim : ∀ l, (nearU (ts.take i) l).length ≤ 2000 := fun l => by
          have q := nearU_len (ts.take i) l
          rw [List.length_take] at q
          omega
        refine ⟨q, _, rfl, hqt3, rfl, _, _, rfl, _, _, rfl, rfl, ?_⟩
        refine ⟨_, rfl, _, rfl, D, _, rfl, g1 m1 hd2, .inl ⟨rfl, _, .inl (.inl (hp2.each _ m1))⟩, _, rfl, _, _, _, rfl, rfl, hp2.each _ m1, by rw [List.length_map, sizeLine_eq]; have := lim ts[i].1; omega, ?_⟩
        have hp3 := hp2.add (x := ts[i].2) m1
        have hd3 : (upd H3 (na ts[i].1) (.lst ((nearU (ts.take i) ts[i].1).map L2.V.str ++ [.str ts[i].2]))) D = some (.dK (fk ws fun l => .ref (na l))) := by
          rw [upd_ne (hq hd2 hp2 _ m1).symm]
          exact hd2
        have kp3 : Kp [] H (upd H3 (na ts[i].1) (.lst ((nearU (ts.take i) ts[i].1).map L2.V.str ++ [.str ts[i].2]))) := kp2.put (hp2.new _ m1)
        have e2 := hp3.each _ m2
        refine ⟨_, rfl, _, rfl, D, _, rfl, g1 m2 hd3, .inl ⟨rfl, _, .inl (.inl e2)⟩, _, rfl, _, _, _, rfl, rfl, e2, by
          rw [List.length_map, sizeLine_eq, List.length_append]
          have h1 : (if ts[i].1 = ts[i].2 then [ts[i].2] else []).length ≤ 1 := by split <;> simp
          have := lim ts[i].2
          omega, ?_⟩
        refine ⟨_, _, rfl, kp3.put (hp2.new _ m2), ?_, ?_⟩
        · rw [upd_ne (hq hd3 hp3 _ m2).symm]
          exact hd3
        · have hp4 := hp3.add (x := ts[i].1) m2
          have e : (fun m => (nearU (ts.take i) m ++ if ts[i].1 = m then [ts[i].2] else []) ++ if ts[i].2 = m then [ts[i].1] else []) = nearU (ts.take (i + 1)) := by
            funext m
            rw [take_snoc' hg, nearU_snoc]
          rw [← e]
          exact hp4
      · rintro σ H2 ⟨o1, o2, rfl, kp2, hd2, hp2⟩
        rw [List.take_length] at hp2
        refine ⟨_, rfl, a, rfl, ⟨_, kp2.same.seq hl0⟩, fun D2 hD2 => ?_⟩
        refine dc_it walkW (fun i H' => ∃ nb : Str → Addr, Kp [] H2 H' ∧ H' D2 = some (.dK (fk (ws.take i) fun l => .ref (nb l))) ∧ ∀ l ∈ ws.take i, H2 (nb l) = none ∧ H' (nb l) = some (.lst ((nearF ts l).map L2.V.str))) ⟨fun _ => 0, kp_new hD2, upd_same, by simp⟩ (fun i H' _ ⟨_, kp, _⟩ => kp.same.seq (kp2.same.seq hl0)) ?_ ?_
        · rintro i x H4 H5 hi ⟨nb, kp4, hd4, hp4⟩ ⟨rfl, y⟩
          have hg := List.getElem?_eq_getElem hi
          obtain rfl := y _ hg
          have hni := notin_take hnd hg
          have mi := List.getElem_mem hi
          have g5 : DGet H5 D (.str ws[i]) (some (.ref (na ws[i]))) := by
            have q := DGet.k (k := Sum.inr ws[i]) (kp4.same _ _ hd2)
            rw [valV_fk mi] at q
            exact q
          refine ⟨rfl, _, rfl, _, rfl, _, rfl, D, _, rfl, g5, ?_⟩
          refine sort_words (.inl (.inl (kp4.same _ _ (hp2.each _ mi)))) fun p np => ?_
          have hpD : D2 ≠ p := ne_of_none hd4 np
          refine ⟨_, Sum.inr ws[i], rfl, by rw [upd_ne hpD]; exact hd4, by rw [fk_len, List.length_take, sizeLine_eq]; omega, fun m => if m = ws[i] then p else nb m, (kp4.put (kp4.free np)).put hD2, ?_, fun l hl => ?_⟩
          · rw [upd_same, fk_step hni, take_snoc' hg]
          · rw [take_snoc' hg] at hl
            rcases List.mem_append.mp hl with hl | hl
            · obtain ⟨n1, n2⟩ := hp4 l hl
              show H2 (if l = ws[i] then p else nb l) = none ∧ upd _ _ _ (if l = ws[i] then p else nb l) = _
              rw [if_neg fun e : l = ws[i] => hni (e ▸ hl)]
              refine ⟨n1, ?_⟩
              rw [upd_ne (fun e => by rw [e, hd4] at n2; cases n2), upd_ne (ne_of_none n2 np)]
              exact n2
            · rw [List.mem_singleton.mp hl]
              show H2 (if ws[i] = ws[i] then p else nb ws[i]) = none ∧ upd _ _ _ (if ws[i] = ws[i] then p else nb ws[i]) = _
              rw [if_pos rfl]
              refine ⟨kp4.free np, ?_⟩
              rw [upd_ne hpD.symm, upd_same]
              rfl
        · rintro H3 ⟨nb, kp4, hd4, hp4⟩
          rw [List.take_length] at hd4 hp4
          have kf := kp2.trans kp4
          refine k D2 H3 kf (kp2.free hD2) ⟨nb, hid_at hd4 (not_mem_of hS (kp2.free hD2)), fun l hl => ?_⟩
          obtain ⟨n1, n2⟩ := hp4 l hl
          exact .inl (.inl (hid_at n2 (not_mem_of hS (kp2.free n1))))
end
end K41
namespace K41
open PySem PySem.Spec PyProof.Rows L2 PySem.W
section
variable {P : Program} {w : World} {K : PySem.W.Frag} {mg : Str → Option Value} {base : Heap} {C : Addr}
def spInit (K : PySem.W.Frag) (C : Addr) : Sp := fun vs H Q _ => ∃ (S : List Addr) (n dx : Addr) (u v : L2.V) (d : Addr) (ws : List Str) (ts : List (Str × Str)) (wish : Str → Str), vs = [.ref n, u, v, .ref d] ∧ Live S H ∧ n ∉ S ∧ H n = some (.ins C dx []) ∧
  Dp K (hid (n :: S) H) u (eW ws) ∧ Dp K (hid (n :: S) H) v (eT ts) ∧ hid (n :: S) H d = some (.dK (fk ws fun l => .str (wish l))) ∧
  (∀ x ∈ ws, Word x) ∧ ws.Nodup ∧ 0 < ws.length ∧ ws.length < 64 ∧ (∀ t ∈ ts, TieOk ws t) ∧ ts.Nodup ∧ ts.length < 64 ∧ (∀ l ∈ ws, wish l ∈ (["odd", "even", "stuck"] : List Str)) ∧
  ∀ H', Kp [n] H H' → NetV K C (hid S H') (.ref n) ⟨srt PyData.str ws, srt eT2 ts, wish⟩ → Q .non H'
theorem c_init (Y : Env K mg C) : ∃ f fd, FnOk P w K mg base CX0 4 f fd ["self", "lamps", "ties", "wishes"] (spInit K C) ∧ Mk K C f ∧ Binds K fd ["self", "lamps", "ties", "wishes"] [] := by
  obtain ⟨f, fd, F, M⟩ := Y.x_init
  refine ⟨f, fd, F.ok sc_net_init (fun vs H Q E h => ?_) (fun cdv A outer s H vs Q E hr h => ?_), M, F.binds fun _ _ _ _ _ _ us hl => match us, hl with | [_, _, _, _], _ => rfl⟩
  · obtain ⟨S, n, dx, u, v, d, ws, ts, wish, rfl, _⟩ := h
    rfl
  · obtain ⟨S, n, dx, u, v, d, ws, ts, wish, rfl, hS, hnS, hn, h1, h2, h3, hw, hnd, hp, hlen, hok, htn, htl, hwi, k⟩ := h
    have hu := hu_of hr
    have L0 : Live (n :: S) H := hS.cons hn
    obtain ⟨a, rfl, hl⟩ := dp_words h1
    obtain ⟨b, xs, rfl, ht, hda⟩ := dp_list h2
    refine ⟨_, (pss_cons (ps_if (pt_not (pt_val (pe_def (c_are_unlike_words Y) (hr.mono (by decide)) (pa_cons (pv 1) pa_nil)))) (pss_one ps_never) pss_nil)
    (pss_cons (ps_if (pt_not (pt_val (pe_def (c_are_ties Y) (hr.mono (by decide)) (pa_cons (pv 1) (pa_cons (pv 2) pa_nil))))) (pss_one ps_never) pss_nil)
    (pss_cons (ps_if (pt_not (pt_val (pe_def (c_are_wishes Y) (hr.mono (by decide)) (pa_cons (pv 1) (pa_cons (pv 3) pa_nil))))) (pss_one ps_never) pss_nil)
    (pss_cons (ps_fld (pv 0) (pe_callB (K_sort (K := K) rfl (hu100 hr)) (by rfl) Y.n_sorted (by decide +kernel) (pa_cons (pv 1) pa_nil)) rfl)
    (pss_cons (ps_fld (pv 0) (pe_callB (K_sort (K := K) rfl (hu100 hr)) (by rfl) Y.n_sorted (by decide +kernel) (pa_cons (pv 2) pa_nil)) rfl)
    (pss_cons (ps_fld (pv 0) (pe_dc (own := [("lamp", 4)]) rfl sc_net_init.nd (K_pil (K := K) rfl (K_fld (K := K) rfl (pv 0) rfl)) (blkOk_by (own := [("lamp", 4)]) (N := ["self", "lamps", "ties", "wishes", "lamp"]) (sc := defScope s_net_init) (by decide +kernel)) (fun _ _ _ _ _ => (pg_name (i := 4) sc_net_init.nd rfl (Or.inl rfl))) (fun _ _ _ _ _ => pts_nil) (fun _ _ _ _ _ => (pv 4)) (fun _ _ _ _ _ => (pe_dget (hu_of hr) (pv 3) (pv 4) (fun _ _ => rfl)))) rfl)
    (pss_cons (ps_fld (pv 0) (pe_def (c_near_by Y) (hr.mono (by decide)) (pa_cons (K_fld (K := K) rfl (pv 0) rfl) (pa_cons (K_fld (K := K) rfl (pv 0) rfl) pa_nil))) rfl)
    (pss_cons (ps_fld (pv 0) (pe_lc (own := [("lamp", 4)]) rfl sc_net_init.nd (K_pil (K := K) rfl (K_fld (K := K) rfl (pv 0) rfl)) (blkOk_by (own := [("lamp", 4)]) (N := ["self", "lamps", "ties", "wishes", "lamp"]) (sc := defScope s_net_init) (by decide +kernel)) (fun _ _ _ _ _ => (pg_name (i := 4) sc_net_init.nd rfl (Or.inl rfl))) (fun _ _ _ _ _ => (pts_one (pt_cmpR op_ne (pe_dget (hu_of hr) (K_fld (K := K) rfl (pv 0) rfl) (pv 4) (fun _ _ => rfl)) pe_str (nomark _)))) (fun _ _ _ _ _ => (pv 4))) rfl)
    (pss_one (ps_fld (pv 0) pe_dnewK rfl)))))))))), ?_⟩
    refine ⟨_, rfl, n :: S, [eW ws], _, L0, .cons h1 .nil, ⟨ws, rfl, hw, hnd, hp, hlen, rfl⟩, fun v1 H1 k1 hv => ?_⟩
    obtain rfl := dp_bl hv
    refine ⟨true, rfl, ?_⟩
    have m1 : Same (hid (n :: S) H) (hid (n :: S) H1) := k1.hid0
    refine ⟨_, rfl, _, rfl, n :: S, [eW ws, eT ts], _, k1.live L0, .cons (Dp.mono m1 h1) (.cons (Dp.mono m1 h2) .nil), ⟨ws, ts, rfl, hok, htn, htl, rfl⟩, fun v2 H2 k2 hv => ?_⟩
    obtain rfl := dp_bl hv
    refine ⟨true, rfl, ?_⟩
    have m2 : Same (hid (n :: S) H) (hid (n :: S) H2) := m1.trans k2.hid0
    refine ⟨_, rfl, _, rfl, n :: S, a, d, ws, wish, rfl, k2.live (k1.live L0), m2.seq hl, m2 _ _ h3, hwi, by omega, fun H3 k3 => ?_⟩
    refine ⟨true, rfl, ?_⟩
    have m3 : Same (hid (n :: S) H) (hid (n :: S) H3) := m2.trans k3.hid0
    have K3 : Kp [n] H H3 := ((k1.trans k2).trans k3).nil
    have n3 : H3 n = some (.ins C dx []) := k3.same _ _ (k2.same _ _ (k1.same _ _ hn))
    -- self.bulbs = sorted(lamps)
    refine ⟨_, rfl, ?_⟩
    refine sort_words (hid_le.seq (m3.seq hl)) fun p4 np4 => ?_
    have e4 : n ≠ p4 := ne_of_none n3 np4
    refine ⟨_, rfl, n, C, dx, [], rfl, by rw [upd_ne e4]; exact n3, Y.isN.cl, Y.f_bulbs, by show 0 < 1000; decide, ?_⟩
    rw [pf1]
    have K4 : Kp [n] H (upd (upd H3 p4 (.lst ((srt PyData.str ws).map L2.V.str))) n (.ins C dx (fl1 p4))) := (K3.new np4).own (List.mem_cons_self ..)
    have b4 : (upd (upd H3 p4 (.lst ((srt PyData.str ws).map L2.V.str))) n (.ins C dx (fl1 p4))) p4 = some (.lst ((srt PyData.str ws).map L2.V.str)) := by rw [upd_ne e4.symm, upd_same]
    have n4 : (upd (upd H3 p4 (.lst ((srt PyData.str ws).map L2.V.str))) n (.ins C dx (fl1 p4))) n = some (.ins C dx (fl1 p4)) := upd_same
    have f4 := K3.free np4
    generalize (upd (upd H3 p4 (.lst ((srt PyData.str ws).map L2.V.str))) n (.ins C dx (fl1 p4))) = H4 at K4 b4 n4 ⊢
    have m4 : Same (hid (n :: S) H) (hid (n :: S) H4) := K4.hid fun a ha => by rw [List.mem_singleton.mp ha]; exact List.mem_cons_self ..
    -- self.edges = sorted(ties)
    refine ⟨_, rfl, ?_⟩
    refine sort_ans (hid_le.seq (m4.seq ht)) (DpAll.mono m4 hda) hid_le (al_ties _) (ok_ties _) dep_tie fun p5 ys np5 dy => ?_
    have e5 : n ≠ p5 := ne_of_none n4 np5
    refine ⟨_, rfl, n, C, dx, _, rfl, by rw [upd_ne e5]; exact n4, Y.isN.cl, Y.f_edges, by show 1 < 1000; decide, ?_⟩
    rw [pf2]
    have f5 := K4.free np5
    have K5 : Kp [n] H (upd (upd H4 p5 (.lst ys)) n (.ins C dx (fl2 p4 p5))) := (K4.new np5).own (List.mem_cons_self ..)
    have K45 : Kp [n] H4 (upd (upd H4 p5 (.lst ys)) n (.ins C dx (fl2 p4 p5))) := (kp_new np5).own (List.mem_cons_self ..)
    have b5 : (upd (upd H4 p5 (.lst ys)) n (.ins C dx (fl2 p4 p5))) p5 = some (.lst ys) := by rw [upd_ne e5.symm, upd_same]
    have n5 : (upd (upd H4 p5 (.lst ys)) n (.ins C dx (fl2 p4 p5))) n = some (.ins C dx (fl2 p4 p5)) := upd_same
    generalize (upd (upd H4 p5 (.lst ys)) n (.ins C dx (fl2 p4 p5))) = H5 at K5 K45 b5 n5 ⊢
    have tn : ∀ a ∈ [n], a ∈ n :: S := fun a ha => by rw [List.mem_singleton.mp ha]; exact List.mem_cons_self ..
    have m5 : Same (hid (n :: S) H) (hid (n :: S) H5) := K5.hid tn
    have dy5 : DpAll K (hid (n :: S) H5) ys ((srt eT2 ts).map eT2) := DpAll.mono (K45.hid tn) dy
    have b45 : H5 p4 = some _ := K45.at (by simpa using e4.symm) b4
    have nd5 : (srt PyData.str ws).Nodup := srt_nodup hnd
    have sl : (srt PyData.str ws).length = ws.length := srt_len _
    -- self.wants = {..}
    refine ⟨_, rfl, n, C, dx, _, _, rfl, n5, Y.isN.cl, Y.f_bulbs, rfl, p4, rfl, ⟨_, .inl (.inl b45)⟩, fun D hD => ?_⟩
    have d5 : H5 d = some _ := hid_le _ _ (m5 _ _ h3)
    refine dc_it (walkW (ws := srt PyData.str ws)) (fun i H' => Kp [] H5 H' ∧ H' D = some (.dK (fk ((srt PyData.str ws).take i) fun l => .str (wish l)))) ⟨kp_new hD, upd_same⟩ (fun i H' _ ⟨kp, _⟩ => .inl (.inl (kp.same _ _ b45))) ?_ ?_
    · rintro i x H6 H7 hi ⟨kp, hd⟩ ⟨rfl, y⟩
      have hg := List.getElem?_eq_getElem hi
      obtain rfl := y _ hg
      have hni := notin_take nd5 hg
      have mi := List.getElem_mem hi
      have g : DGet H7 d (.str (srt PyData.str ws)[i]) (some (.str (wish (srt PyData.str ws)[i]))) := by
        have q := DGet.k (k := Sum.inr (srt PyData.str ws)[i]) (kp.same _ _ d5)
        rw [valV_fk (srt_mem.mp mi)] at q
        exact q
      refine ⟨rfl, _, rfl, _, rfl, _, rfl, d, _, rfl, g, _, Sum.inr (srt PyData.str ws)[i], rfl, hd, by rw [fk_len, List.length_take, sizeLine_eq]; omega, kp.put hD, ?_⟩
      rw [upd_same, fk_snoc hni, take_snoc' hg, fk_app rfl]
    rintro H6 ⟨k6, hd6⟩
    rw [List.take_length] at hd6
    have n6 : H6 n = some _ := k6.same _ _ n5
    have e6 : n ≠ D := ne_of_none n5 hD
    refine ⟨_, rfl, n, C, dx, _, rfl, n6, Y.isN.cl, Y.f_wants, by show 2 < 1000; decide, ?_⟩
    rw [pf3]
    have f6 := K5.free hD
    have K6 : Kp [n] H (upd H6 n (.ins C dx (fl3 p4 p5 D))) := (K5.trans k6.nil).own (List.mem_cons_self ..)
    have K56 : Kp [n] H5 (upd H6 n (.ins C dx (fl3 p4 p5 D))) := (k6.nil).own (List.mem_cons_self ..)
    have b6 : (upd H6 n (.ins C dx (fl3 p4 p5 D))) D = some (.dK (fk (srt PyData.str ws) fun l => .str (wish l))) := by rw [upd_ne e6.symm]; exact hd6
    have n7 : (upd H6 n (.ins C dx (fl3 p4 p5 D))) n = some (.ins C dx (fl3 p4 p5 D)) := upd_same
    generalize (upd H6 n (.ins C dx (fl3 p4 p5 D))) = H7 at K6 K56 b6 n7 ⊢
    have b47 : H7 p4 = some _ := K56.at (by simpa using e4.symm) b45
    have b57 : H7 p5 = some _ := K56.at (by simpa using e5.symm) b5
    have dy7 : DpAll K (hid (n :: S) H7) ys ((srt eT2 ts).map eT2) := DpAll.mono (K56.hid tn) dy5
    have nm : ∀ {x : Addr} {o : HO}, n ≠ x → H x = none → H7 x = some o → hid (n :: S) H7 x = some o := fun e f g => hid_at g (by
      intro z
      rcases List.mem_cons.mp z with z | z
      · exact e z.symm
      · exact not_mem_of hS f z)
    -- self.near = near_by(self.bulbs, self.edges)
    refine ⟨_, rfl, n, C, dx, _, _, rfl, n7, Y.isN.cl, Y.f_bulbs, rfl, _, rfl, n, C, dx, _, _, rfl, n7, Y.isN.cl, Y.f_edges, rfl, n :: S, .ref p4, .ref p5, srt PyData.str ws, srt eT2 ts, rfl, K6.live L0, words_dp (.inl (.inl (nm e4 f4 b47))), .lst (.inl (.inl (nm e5 f5 b57))) dy7, nd5,
      (fun t ht => by
        obtain ⟨_, _, _, q1, q2⟩ := hok t (srt_mem.mp ht)
        exact ⟨srt_mem.mpr q1, srt_mem.mpr q2⟩), by omega, by rw [srt_len]; omega, fun p8 H8 k8 np8 nr8 => ?_⟩
    have n8 : H8 n = some _ := k8.same _ _ n7
    have e8 : n ≠ p8 := ne_of_none n7 np8
    have f8 := K6.free np8
    refine ⟨_, rfl, n, C, dx, _, rfl, n8, Y.isN.cl, Y.f_near, by show 3 < 1000; decide, ?_⟩
    rw [pf4]
    have K8 : Kp [n] H (upd H8 n (.ins C dx (fl4 p4 p5 D p8))) := (K6.trans k8.nil).own (List.mem_cons_self ..)
    have K78 : Kp [n] H7 (upd H8 n (.ins C dx (fl4 p4 p5 D p8))) := (k8.nil).own (List.mem_cons_self ..)
    have nr9 : NearAt K (hid (n :: S) (upd H8 n (.ins C dx (fl4 p4 p5 D p8)))) p8 (srt PyData.str ws) (srt eT2 ts) := by
      rw [hid_in (List.mem_cons_self ..)]
      exact nr8
    have n9 : (upd H8 n (.ins C dx (fl4 p4 p5 D p8))) n = some (.ins C dx (fl4 p4 p5 D p8)) := upd_same
    generalize (upd H8 n (.ins C dx (fl4 p4 p5 D p8))) = H9 at K8 K78 nr9 n9 ⊢
    have b49 : H9 p4 = some _ := K78.at (by simpa using e4.symm) b47
    have b59 : H9 p5 = some _ := K78.at (by simpa using e5.symm) b57
    have b69 : H9 D = some _ := K78.at (by simpa using e6.symm) b6
    have dy9 : DpAll K (hid (n :: S) H9) ys ((srt eT2 ts).map eT2) := DpAll.mono (K78.hid tn) dy7
    -- self.free = [..]
    refine ⟨_, rfl, n, C, dx, _, _, rfl, n9, Y.isN.cl, Y.f_bulbs, rfl, p4, rfl, ⟨_, .inl (.inl b49)⟩, fun D2 hD2 => ?_⟩
    refine lcT (K := K) (items := srt PyData.str ws) (S := n :: S) walkW (fun l => decide (wish l ≠ "stuck")) (fun l => .str l) hD2 (K8.live L0) (by omega) (fun H' kp => .inl (.inl (kp.same _ _ b49))) ?_ ?_
    · rintro i x x1 Ha Hb Yes No hi kp hL ⟨rfl, y⟩ yes no
      obtain rfl := y x hi
      have mi := List.mem_of_getElem? hi
      have g : DGet Hb D (.str x) (some (.str (wish x))) := by
        have q := DGet.k (k := Sum.inr x) (kp.same _ _ b69)
        rw [valV_fk mi] at q
        exact q
      refine ⟨rfl, _, rfl, n, C, dx, _, _, rfl, kp.same _ _ n9, Y.isN.cl, Y.f_wants, rfl, _, rfl, D, _, rfl, g, rfl, _, rfl, ?_⟩
      have eq : (decide (L2.V.str (wish x) = L2.V.str "stuck")) = decide (wish x = "stuck") := by
        by_cases h : wish x = "stuck"
        · rw [decide_eq_true h, decide_eq_true (by rw [h])]
        · rw [decide_eq_false h, decide_eq_false fun z => h (L2.V.str.inj z)]
      rw [eq]
      by_cases h : wish x = "stuck"
      · refine if_no (by rw [decide_eq_true h]; rfl) (no _ .refl (by rw [decide_eq_false (by simpa using h)]))
      · refine if_yes (by rw [decide_eq_false h]; rfl) ?_
        exact ⟨_, rfl, yes _ _ .refl (by rw [decide_eq_true h]) (.str x)⟩
    · intro Ha ys2 kp hL hl2 hle da dp
      have n10 : Ha n = some _ := kp.same _ _ n9
      have e10 : n ≠ D2 := ne_of_none n9 hD2
      refine ⟨_, rfl, n, C, dx, _, rfl, n10, Y.isN.cl, Y.f_free, by show 4 < 1000; decide, ?_⟩
      rw [pf5]
      intro p11 np11
      have e11 : n ≠ p11 := ne_of_none upd_same np11
      refine ⟨_, rfl, n, C, dx, _, rfl, by rw [upd_ne e11]; exact upd_same, Y.isN.cl, Y.f_known, by show 5 < 1000; decide, ?_⟩
      rw [pf6]
      have f10 := K8.free hD2
      have K9b : Kp [n] H9 (upd (upd (upd Ha n (.ins C dx (fl5 p4 p5 D p8 D2))) p11 (.dK [])) n (.ins C dx (flds p4 p5 D p8 D2 p11))) := ((kp.nil.own (List.mem_cons_self ..)).new np11).own (List.mem_cons_self ..)
      have KH := K8.trans K9b
      have n12 : (upd (upd (upd Ha n (.ins C dx (fl5 p4 p5 D p8 D2))) p11 (.dK [])) n (.ins C dx (flds p4 p5 D p8 D2 p11))) n = some (.ins C dx (flds p4 p5 D p8 D2 p11)) := upd_same
      have e12 : D2 ≠ p11 := fun e => by
        subst e
        rw [upd_ne e10.symm, hl2] at np11
        cases np11
      have b12 : (upd (upd (upd Ha n (.ins C dx (fl5 p4 p5 D p8 D2))) p11 (.dK [])) n (.ins C dx (flds p4 p5 D p8 D2 p11))) D2 = some (.lst ys2) := by rw [upd_ne e10.symm, upd_ne e12, upd_ne e10.symm]; exact hl2
      generalize (upd (upd (upd Ha n (.ins C dx (fl5 p4 p5 D p8 D2))) p11 (.dK [])) n (.ins C dx (flds p4 p5 D p8 D2 p11))) = H12 at K9b KH n12 b12 ⊢
      have at' : ∀ {x : Addr} {o : HO}, n ≠ x → H x = none → H9 x = some o → hid S H12 x = some o := fun e f g => hid_at (K9b.at (by simpa using e.symm) g) (not_mem_of hS f)
      refine k H12 KH ⟨n, dx, p4, p5, D, p8, D2, p11, rfl, hid_at n12 hnS, .inl (.inl (at' e4 f4 b49)), .lst (.inl (.inl (at' e5 f5 b59))) (DpAll.mono ((K9b.hid tn).trans hid_tail) dy9), at' e6 f6 b69, nr9.mono ((K9b.hid tn).trans hid_tail), ?_⟩
      have ey : ys2 = ((srt PyData.str ws).filter fun l => decide (wish l ≠ "stuck")).map L2.V.str := da_strs da
      rw [ey] at b12
      exact .inl (.inl (hid_at b12 (not_mem_of hS f10)))
end
end K41
namespace K41
open PySem PySem.Spec PyProof.Rows L2 PySem.W
/-! ### what the program's words compute -/
def litF (N : Net) (s : List Str) (l : Str) : List Str := (nearF N.ties l).filter fun o => decide (o ∈ s)
def readyF (N : Net) (s : List Str) (l : Str) : Bool := decide (N.wish l ≠ "stuck") && decide (((litF N s l).length : Int) % 2 = if N.wish l = "odd" then 1 else 0)
def freeF (N : Net) : List Str := N.lamps.filter fun l => decide (N.wish l ≠ "stuck")
def readyL (N : Net) (s : List Str) : List Str := (freeF N).filter (readyF N s)
def flipF (s : List Str) (l : Str) : List Str := if l ∈ s then s.filter (fun o => decide (o ≠ l)) else srt PyData.str (s ++ [l])
structure IsSet (N : Net) (s : List Str) : Prop where
  pw : s.Pairwise Lt
  sub : ∀ x ∈ s, x ∈ N.lamps
theorem IsSet.eq {N : Net} {s : List Str} (g : Good N) (h : IsSet N s) : s = N.lamps.filter fun x => decide (x ∈ s) :=
  lt_eq h.pw (g.sorted.filter _) fun x => by
    rw [List.mem_filter, decide_eq_true_eq]
    exact ⟨fun hx => ⟨h.sub x hx, hx⟩, fun hx => hx.2⟩
theorem IsSet.len {N : Net} {s : List Str} (g : Good N) (h : IsSet N s) : s.length ≤ 8 := by
  rw [h.eq g]
  exact Nat.le_trans (List.length_filter_le _ _) g.few
section
variable {P : Program} {w : World} {K : PySem.W.Frag} {mg : Str → Option Value} {base : Heap} {C : Addr}
/-- a net and data in, data out -/
def spN (K : PySem.W.Frag) (C : Addr) (R : Net → List PyData → PyData → Prop) : Sp := fun vs H Q _ => ∃ (S : List Addr) (v : L2.V) (rest : List L2.V) (N : Net) (ds : List PyData) (d : PyData), vs = v :: rest ∧ Live S H ∧ NetV K C (hid S H) v N ∧ Good N ∧ DpAll K (hid S H) rest ds ∧ R N ds d ∧
  ∀ v' H', Kp [] H H' → Dp K (hid S H') v' d → Q v' H'
theorem Good.shp {N : Net} (g : Good N) : SeqAt.shaped (eT N.ties) = true :=
  (fine_ties fun t ht => ⟨(g.words _ (g.tok t ht).2.1).low, (g.words _ (g.tok t ht).2.2).low⟩).shaped (by decide)
/-- two nets that are the same -/
def rSameN (K : PySem.W.Frag) (C : Addr) (a b : Addr) (H : Hp) : Prop := ∃ N, NetV K C H (.ref a) N ∧ NetV K C H (.ref b) N ∧ Good N
theorem c_eq (Y : Env K mg C) : ∃ f fd, FnOk P w K mg base CX0 1 f fd ["self", "other"] (spEqs (rSameN K C)) ∧ PySem.W.findIn K (.ref C) "__eq__" = some (some (.ref f)) ∧ PySem.W.isFn K (.ref f) = true ∧ Binds K fd ["self", "other"] [] := by
  obtain ⟨f, fd, F, h1, h2⟩ := Y.x_eq
  refine ⟨f, fd, F.ok sc_net_eq (fun vs H Q E h => ?_) (fun cdv A outer s H vs Q E hr h => ?_), h1, h2, F.binds fun _ _ _ _ _ _ us hl => match us, hl with | [_, _], _ => rfl⟩
  · obtain ⟨a, b, rfl, _⟩ := h
    rfl
  · obtain ⟨a, b, rfl, ⟨N, h1, h2, hf⟩, k⟩ := h
    obtain ⟨n, dx, b1, e1, w1, r1, f1, k1, e, a1, a2, a3, a4, a5, a6⟩ := h1
    cases e
    obtain ⟨n2, dx2, b2, e2, w2, r2, f2, k2, e, c1, c2, c3, c4, c5, c6⟩ := h2
    cases e
    refine ⟨_, (pss_one (ps_ret (pe_and (pe_callB (C8.call_isC Y.isN) (by rfl) Y.n_isinstance (by decide +kernel) (pa_cons (pv 1) (pa_cons (pe_glob (v := .ref C) rfl Y.mgN rfl) pa_nil))) (pe_and (pe_cmpR (K_eqD (K := K) rfl (hu65 hr)) (K_fld (K := K) rfl (pv 0) rfl) (K_fld (K := K) rfl (pv 1) rfl) (nomark _)) (pe_one (pe_cmpR (op_eq_dictA (hu0 hr)) (K_fld (K := K) rfl (pv 0) rfl) (K_fld (K := K) rfl (pv 1) rfl) (nomark _))))))), ?_⟩
    refine ⟨_, rfl, b, dx2, _, rfl, c1, true, rfl, iteT ?_⟩
    refine ⟨_, rfl, a, C, dx, _, _, rfl, a1, Y.isN.cl, Y.f_edges, rfl, _, rfl, b, C, dx2, _, _, rfl, c1, Y.isN.cl, Y.f_edges, rfl, eT N.ties, eT N.ties, a3, c3, hf.shp, hf.shp, _, rfl, if_yes (eqv_ties _) ?_⟩
    refine ⟨_, rfl, a, C, dx, _, _, rfl, a1, Y.isN.cl, Y.f_wants, rfl, _, rfl, b, C, dx2, _, _, rfl, c1, Y.isN.cl, Y.f_wants, rfl, w1, w2, _, _, rfl, rfl, a4, c4, rfl, fun p hp => ?_, ?_⟩
    · obtain ⟨l, hl, rfl⟩ := List.mem_map.mp hp
      exact ⟨valV_fk hl, rfl⟩
    · exact k H (Same.refl H)
theorem neNet {X : Cx} (Y : Env X.K X.mg C) {k : Nat} (hr : Room (2 + k) X.A) : OpR X (compareOp .NotEq) (rNeI C (rSameN X.K C)) := by
  obtain ⟨f, fd, F, h1, h2, h3⟩ := c_eq (P := X.prog) (w := X.w) (base := X.base) Y
  exact op_neI F (hr.mono (by omega)) Y.ne Y.ob h1 h2 h3 pass0
/-- what Net(lamps, ties, wishes) asks -/
structure NewN (K : PySem.W.Frag) (C : Addr) (vs : List L2.V) (H : Hp) (Q : VK) : Prop where
  go : ∃ (S : List Addr) (u v : L2.V) (d : Addr) (ws : List Str) (ts : List (Str × Str)) (wish : Str → Str), vs = [u, v, .ref d] ∧ Live S H ∧
    Dp K (hid S H) u (eW ws) ∧ Dp K (hid S H) v (eT ts) ∧ hid S H d = some (.dK (fk ws fun l => .str (wish l))) ∧
    (∀ x ∈ ws, Word x) ∧ ws.Nodup ∧ 0 < ws.length ∧ ws.length < 64 ∧ (∀ t ∈ ts, TieOk ws t) ∧ ts.Nodup ∧ ts.length < 64 ∧ (∀ l ∈ ws, wish l ∈ (["odd", "even", "stuck"] : List Str)) ∧
    ∀ n H', Kp [] H H' → NetV K C (hid S H') (.ref n) ⟨srt PyData.str ws, srt eT2 ts, wish⟩ → Q (.ref n) H'
theorem pe_net {X : Cx} (Y : Env X.K X.mg C) {k : Nat} (hr : Room (5 + k) X.A) {e : Expr} {es : List Expr} {t : TA} {p pos : Pos} (ha : PA X (e :: es) t) (hg : Gl X "Net" := by rfl)
    (he : starEach (e :: es) X.env = (false, eval e X.env) :: starEach es X.env := by rfl) (hpl : (backTo pos (starEach es X.env)).any (·.1) = false := by rfl)
    (hb2 : (("Net" : Str) == ("__debug__" : Str)) = false := by decide) : PE X (.Call (.Name "Net" p) (e :: es) [] pos) (fun σ H Q => tMake C (spInit X.K C) [] E0 t σ H Q) := by
  obtain ⟨f, fd, F, M, b⟩ := c_init (P := X.prog) (w := X.w) (base := X.base) Y
  exact pe_make M F (hr.mono (by omega)) hg Y.mgN b .nil pass0 ha (by decide) he hpl
theorem make_ans {H : Hp} {Q : VK} {E : XK} {vs : List L2.V} (h : NewN K C vs H Q) : ∀ x dx, H x = none → H dx = none → dx ≠ x → spInit K C (.ref x :: (vs ++ [])) (upd (upd H dx (.own x)) x (.ins C dx [])) (fun v H2 => v = .non ∧ Q (.ref x) H2) E := by
  obtain ⟨S, u, v, d, ws, ts, wish, rfl, hS, h1, h2, h3, c1, c2, c3, c4, c5, c6, c7, c8, k⟩ := h.go
  intro x dx nx ndx nex
  have m : Same (hid S H) (hid (x :: S) (upd (upd H dx (.own x)) x (.ins C dx []))) := by
    rw [hid_in (List.mem_cons_self ..), ← hid_cons nx]
    exact hid_same (same_new ndx)
  have L : Live S (upd (upd H dx (.own x)) x (.ins C dx [])) := (hS.upd).upd
  refine ⟨S, x, dx, u, v, d, ws, ts, wish, rfl, L, not_mem_of hS nx, upd_same, Dp.mono m h1, Dp.mono m h2, m _ _ h3, c1, c2, c3, c4, c5, c6, c7, c8, fun H' kp hN => ⟨rfl, k x H' ?_ hN⟩⟩
  intro b o e
  have e1 : b ≠ x := ne_of_none e nx
  have e2 : b ≠ dx := ne_of_none e ndx
  have q : (upd (upd H dx (.own x)) x (.ins C dx [])) b = some o := by
    rw [upd_ne e1, upd_ne e2]
    exact e
  exact ⟨(kp b o q).1, fun _ => (kp b o q).2 (by simpa using e1)⟩
def rCheckNet (N : Net) (ds : List PyData) (d : PyData) : Prop := ds = [] ∧ d = .none
theorem c_check_net (Y : Env K mg C) : Def P w K mg base (Str.ofString "check_net") 1 ["value"] (spN K C rCheckNet) := by
  refine def_mk Y.t_check_net sc_check_net bb_check_net (fun vs H Q E h => ?_) (fun f cdv A outer s H vs Q E hr h => ?_)
  · obtain ⟨S, v, rest, N, ds, d, rfl, hS, hN, g, h, ⟨rfl, rfl⟩, k⟩ := h
    rw [da_nil h]
    rfl
  · obtain ⟨S, v, rest, N, ds, d, rfl, hS, hN, g, h, ⟨rfl, rfl⟩, k⟩ := h
    obtain rfl := da_nil h
    obtain ⟨n, dx, b, e, w, r, f, k', rfl, a1, a2, a3, a4, a5, a6⟩ := hN
    refine ⟨_, (pss_one (ps_if (pt_not (pt_val (pe_callB (C8.call_isC Y.isN) (by rfl) Y.n_isinstance (by decide +kernel) (pa_cons (pv 0) (pa_cons (pe_glob (v := .ref C) rfl Y.mgN rfl) pa_nil))))) (pss_one ps_never) pss_nil)), ?_⟩
    exact ⟨_, rfl, n, dx, _, rfl, hid_le _ _ a1, true, rfl, k _ H .refl .non⟩
def rLampsOf (N : Net) (ds : List PyData) (d : PyData) : Prop := ∃ s, ds = [eW s] ∧ IsSet N s ∧ d = .bool true
theorem c_are_lamps_of (Y : Env K mg C) : Def P w K mg base (Str.ofString "are_lamps_of") 4 ["net", "value"] (spN K C rLampsOf) := by
  refine def_mk Y.t_are_lamps_of sc_are_lamps_of bb_are_lamps_of (fun vs H Q E h => ?_) (fun f cdv A outer s H vs Q E hr h => ?_)
  · obtain ⟨S, v, rest, N, ds, d, rfl, hS, hN, g, h, ⟨s, rfl, _⟩, k⟩ := h
    exact congrArg Nat.succ (DpAll.length h)
  · obtain ⟨S, v, rest, N, ds, d, rfl, hS, hN, g, h, ⟨st, rfl, hs, rfl⟩, k⟩ := h
    obtain ⟨u, rfl, h1⟩ := da1 h
    have hu := hu_of hr
    have sl := hs.len g
    refine ⟨_, (pss_one (ps_ret (pe_and (pe_def (c_are_rising_words Y) (hr.mono (by decide)) (pa_cons (pv 1) pa_nil)) (pe_one (pe_callB (K_all (K := K) rfl rfl) (by rfl) Y.n_all (by decide +kernel) (pa_cons (pe_lc (own := [("lamp", 2)]) rfl sc_are_lamps_of.nd (K_pil (K := K) rfl (pv 1)) (blkOk_by (own := [("lamp", 2)]) (N := ["net", "value", "lamp"]) (sc := defScope s_are_lamps_of) (by decide +kernel)) (fun _ _ _ _ _ => (pg_name (i := 2) sc_are_lamps_of.nd rfl (Or.inl rfl))) (fun _ _ _ _ _ => pts_nil) (fun _ _ _ _ _ => (pe_cmp (pc_din (hu_of hr) (pv 2) (K_fld (K := K) rfl (pv 0) rfl))))) pa_nil)))))), ?_⟩
    refine ⟨_, rfl, S, [eW st], _, hS, .cons h1 .nil, ⟨st, rfl, fun x hx => g.words x (hs.sub x hx), hs.pw, by omega, rfl⟩, fun v1 H1 kp hv => ?_⟩
    obtain rfl := dp_bl hv
    refine ⟨true, rfl, iteT ?_⟩
    obtain ⟨a, rfl, hl⟩ := dp_words (Dp.mono kp.hid0 h1)
    have hl0 : SqL K H1 a _ := Same.seq hid_le hl
    obtain ⟨n, dx, b, e, w, r, f, k', rfl, a1, a2, a3, a4, a5, a6⟩ := (hN.mono kp.hid0).mono hid_le
    refine ⟨_, rfl, a, rfl, ⟨_, hl0⟩, fun D hD => ?_⟩
    refine lcS (K := K) (items := st) (S := S) walkW (fun _ => .bool true) hD (kp.live hS) (by omega) (fun H1 kp => kp.same.seq hl0) ?_ ?_
    · rintro i x x1 H4 H5 Yes hi kp hL ⟨rfl, y⟩ yes
      obtain rfl := y x hi
      refine ⟨rfl, _, rfl, _, rfl, n, C, dx, _, _, rfl, kp.same _ _ a1, Y.isN.cl, Y.f_wants, rfl, w, _, rfl, DGet.k (k := Sum.inr x) (kp.same _ _ a4), ?_⟩
      rw [valV_fk (hs.sub x (List.mem_of_getElem? hi))]
      exact yes _ _ .refl (.bl true)
    · intro H2 ys kp2 hL hl2 hle da dp
      have e := da_bools da
      rw [e] at hl2
      refine ⟨D, _, rfl, .inl (.inl hl2), ?_⟩
      rw [all_true]
      exact k _ H2 (kp.trans kp2) (.bl true)
def rCheck (N : Net) (ds : List PyData) (d : PyData) : Prop := ∃ s, ds = [eW s] ∧ IsSet N s ∧ d = .none
theorem c_check_setting (Y : Env K mg C) : Def P w K mg base (Str.ofString "check_setting") 5 ["net", "value"] (spN K C rCheck) := by
  refine def_mk Y.t_check_setting sc_check_setting bb_check_setting (fun vs H Q E h => ?_) (fun f cdv A outer s H vs Q E hr h => ?_)
  · obtain ⟨S, v, rest, N, ds, d, rfl, hS, hN, g, h, ⟨s, rfl, _⟩, k⟩ := h
    exact congrArg Nat.succ (DpAll.length h)
  · obtain ⟨S, v, rest, N, ds, d, rfl, hS, hN, g, h, ⟨st, rfl, hs, rfl⟩, k⟩ := h
    obtain ⟨u, rfl, h1⟩ := da1 h
    refine ⟨_, (pss_one (ps_if (pt_not (pt_val (pe_def (c_are_lamps_of Y) (hr.mono (by decide)) (pa_cons (pv 0) (pa_cons (pv 1) pa_nil))))) (pss_one ps_never) pss_nil)), ?_⟩
    refine ⟨_, rfl, _, rfl, S, v, [u], N, [eW st], _, rfl, hS, hN, g, .cons h1 .nil, ⟨st, rfl, hs, rfl⟩, fun v1 H1 kp hv => ?_⟩
    obtain rfl := dp_bl hv
    exact ⟨true, rfl, k _ _ kp .non⟩
theorem c_check_set (Y : Env K mg C) : Def P w K mg base (Str.ofString "check_set") 6 ["net", "setting"] (spN K C rCheck) := by
  refine def_mk Y.t_check_set sc_check_set bb_check_set (fun vs H Q E h => ?_) (fun f cdv A outer s H vs Q E hr h => ?_)
  · obtain ⟨S, v, rest, N, ds, d, rfl, hS, hN, g, h, ⟨s, rfl, _⟩, k⟩ := h
    exact congrArg Nat.succ (DpAll.length h)
  · obtain ⟨S, v, rest, N, ds, d, rfl, hS, hN, g, h, ⟨st, rfl, hs, rfl⟩, k⟩ := h
    obtain ⟨u, rfl, h1⟩ := da1 h
    refine ⟨_, (pss_cons (ps_expr (pe_def (c_check_net Y) (hr.mono (by decide)) (pa_cons (pv 0) pa_nil)))
    (pss_one (ps_expr (pe_def (c_check_setting Y) (hr.mono (by decide)) (pa_cons (pv 0) (pa_cons (pv 1) pa_nil)))))), ?_⟩
    refine ⟨_, rfl, S, v, [], N, [], _, rfl, hS, hN, g, .nil, ⟨rfl, rfl⟩, fun v1 H1 kp hv => ?_⟩
    refine ⟨_, rfl, _, rfl, S, v, [u], N, [eW st], _, rfl, kp.live hS, hN.mono kp.hid0, g, .cons (Dp.mono kp.hid0 h1) .nil, ⟨st, rfl, hs, rfl⟩, fun v2 H2 kp2 hv2 => ?_⟩
    exact k _ _ (kp.trans kp2) .non
theorem Good.nearlen {N : Net} (g : Good N) (l : Str) : (nearF N.ties l).length ≤ 128 := by
  have h := nearU_len N.ties l
  have := g.tfew
  unfold nearF
  rw [srt_len]
  omega
def rLit (N : Net) (ds : List PyData) (d : PyData) : Prop := ∃ s l, ds = [eW s, .str l] ∧ l ∈ N.lamps ∧ d = eW (litF N s l)
theorem c_lit_at (Y : Env K mg C) : Def P w K mg base (Str.ofString "lit_at") 1 ["net", "setting", "lamp"] (spN K C rLit) := by
  refine def_mk Y.t_lit_at sc_lit_at bb_lit_at (fun vs H Q E h => ?_) (fun f cdv A outer s H vs Q E hr h => ?_)
  · obtain ⟨S, v, rest, N, ds, d, rfl, hS, hN, g, h, ⟨s, l, rfl, _⟩, k⟩ := h
    exact congrArg Nat.succ (DpAll.length h)
  · obtain ⟨S, v, rest, N, ds, d, rfl, hS, hN, g, h, ⟨st, l, rfl, hm, rfl⟩, k⟩ := h
    obtain ⟨u, u2, rfl, h1, h2⟩ := da2 h
    obtain rfl := dp_str h2
    have hu := hu_of hr
    obtain ⟨a, rfl, hl⟩ := dp_words h1
    have hl0 : SqL K H a _ := Same.seq hid_le hl
    obtain ⟨n, dx, b, e, w, r, f, k', rfl, a1, a2, a3, a4, ⟨nb, a5, a7⟩, a6⟩ := hN.mono hid_le
    refine ⟨_, (pss_one (ps_ret (pe_lc (own := [("other", 3)]) rfl sc_lit_at.nd (K_pil (K := K) rfl (pe_dget (hu_of hr) (K_fld (K := K) rfl (pv 0) rfl) (pv 2) (fun _ _ => rfl))) (blkOk_by (own := [("other", 3)]) (N := ["net", "setting", "lamp", "other"]) (sc := defScope s_lit_at) (by decide +kernel)) (fun _ _ _ _ _ => (pg_name (i := 3) sc_lit_at.nd rfl (Or.inl rfl))) (fun _ _ _ _ _ => (pts_one (pt_cmpR (K_in_seq (K := K) rfl) (pv 3) (pv 1) rfl))) (fun _ _ _ _ _ => (pv 3))))), ?_⟩
    have g1 : DGet H r (.str l) (some (.ref (nb l))) := by
      have q := DGet.k (k := Sum.inr l) a5
      rw [valV_fk hm] at q
      exact q
    refine ⟨_, rfl, n, C, dx, _, _, rfl, a1, Y.isN.cl, Y.f_near, rfl, _, rfl, r, _, rfl, g1, nb l, rfl, ⟨_, a7 l hm⟩, fun D hD => ?_⟩
    refine lcT (K := K) (items := nearF N.ties l) (S := S) walkW (fun o => decide (o ∈ st)) (fun l => .str l) hD hS (by have := g.nearlen l; omega) (fun H' kp => kp.same.seq (a7 l hm)) ?_ ?_
    · rintro i x x1 Ha Hb Yes No hi kp hL ⟨rfl, y⟩ yes no
      obtain rfl := y x hi
      refine ⟨rfl, _, rfl, _, rfl, a, _, rfl, .inl (kp.same.seq hl0), rfl, flat_strs _, _, rfl, ?_⟩
      have q : (if false = true then !inV (.str x) (st.map L2.V.str) else inV (.str x) (st.map L2.V.str)) = decide (x ∈ st) := by
        rw [if_neg (by decide), inV_str]
      rw [q]
      by_cases h : x ∈ st
      · rw [decide_eq_true h]
        exact iteT ⟨_, rfl, yes _ _ .refl (decide_eq_true h) (.str x)⟩
      · rw [decide_eq_false h]
        exact iteF (no _ .refl (decide_eq_false h))
    · intro Ha ys2 kp hL hl2 hle da dp
      exact k _ _ kp dp
theorem str_eqb {a b : Str} : decide (L2.V.str a = L2.V.str b) = decide (a = b) := by
  by_cases h : a = b
  · rw [decide_eq_true h, decide_eq_true (by rw [h])]
  · rw [decide_eq_false h, decide_eq_false fun z => h (L2.V.str.inj z)]
theorem int_eqb {a b : Int} : decide (L2.V.int a = L2.V.int b) = decide (a = b) := by
  by_cases h : a = b
  · rw [decide_eq_true h, decide_eq_true (by rw [h])]
  · rw [decide_eq_false h, decide_eq_false fun z => h (L2.V.int.inj z)]
def rReady (N : Net) (ds : List PyData) (d : PyData) : Prop := ∃ s l, ds = [eW s, .str l] ∧ l ∈ N.lamps ∧ d = .bool (readyF N s l)
theorem c_is_ready_in (Y : Env K mg C) : Def P w K mg base (Str.ofString "is_ready_in") 2 ["net", "setting", "lamp"] (spN K C rReady) := by
  refine def_mk Y.t_is_ready_in sc_is_ready_in bb_is_ready_in (fun vs H Q E h => ?_) (fun f cdv A outer s H vs Q E hr h => ?_)
  · obtain ⟨S, v, rest, N, ds, d, rfl, hS, hN, g, h, ⟨s, l, rfl, _⟩, k⟩ := h
    exact congrArg Nat.succ (DpAll.length h)
  · obtain ⟨S, v, rest, N, ds, d, rfl, hS, hN, g, h, ⟨st, l, rfl, hm, rfl⟩, k⟩ := h
    obtain ⟨u, u2, rfl, h1, h2⟩ := da2 h
    obtain rfl := dp_str h2
    have hu := hu_of hr
    have hN2 := hN
    obtain ⟨n, dx, b, e, w, r, f, k', rfl, a1, a2, a3, a4, ⟨nb, a5, a7⟩, a6⟩ := hN.mono hid_le
    refine ⟨_, (pss_cons (ps_set (i := 3) sc_is_ready_in.nd rfl (Or.inl rfl) (pe_dget (hu_of hr) (K_fld (K := K) rfl (pv 0) rfl) (pv 2) (fun _ _ => rfl)))
    (pss_one (ps_ret (pe_and (pe_cmpR op_ne (pv 3) pe_str (nomark _)) (pe_one (pe_cmpR op_eq (pe_op op_mod (pe_callB (K_len (K := K) rfl) (by rfl) Y.n_len (by decide +kernel) (pa_cons (pe_def (c_lit_at Y) (hr.mono (by decide)) (pa_cons (pv 0) (pa_cons (pv 1) (pa_cons (pv 2) pa_nil)))) pa_nil)) pe_int) (pe_callTy call_int1 (by rfl) Y.n_int (by decide +kernel) (pa_cons (pe_cmpR op_eq (pv 3) pe_str (nomark _)) pa_nil)) (nomark _))))))), ?_⟩
    have g1 : DGet H w (.str l) (some (.str (N.wish l))) := by
      have q := DGet.k (k := Sum.inr l) a4
      rw [valV_fk hm] at q
      exact q
    refine ⟨_, rfl, n, C, dx, _, _, rfl, a1, Y.isN.cl, Y.f_wants, rfl, _, rfl, w, _, rfl, g1, ?_⟩
    refine ⟨_, rfl, rfl, _, rfl, ?_⟩
    unfold readyF at k
    rw [str_eqb]
    by_cases hs : N.wish l = "stuck"
    · refine if_no (by rw [decide_eq_true hs]; rfl) (k _ _ .refl ?_)
      rw [decide_eq_false (by simpa using hs)]
      exact .bl false
    · refine if_yes (by rw [decide_eq_false hs]; rfl) ?_
      rw [decide_eq_true hs] at k
      refine ⟨_, rfl, _, rfl, _, rfl, S, .ref n, _, N, _, _, rfl, hS, hN2, g, .cons h1 (.cons (.str l) .nil), ⟨st, l, rfl, hm, rfl⟩, fun v1 H1 kp hv => ?_⟩
      obtain ⟨c, rfl, hc⟩ := dp_words hv
      refine ⟨c, _, rfl, .inl (Same.seq hid_le hc), _, _, rfl, rfl, by show (0 : Int) < 2; decide, ?_⟩
      refine ⟨_, rfl, rfl, .inr ⟨_, rfl, rfl, ?_⟩⟩
      refine k _ _ kp ?_
      rw [str_eqb, List.length_map, int_eqb]
      have e : (if decide (N.wish l = "odd") = true then (1 : Int) else 0) = if N.wish l = "odd" then 1 else 0 := by
        by_cases h : N.wish l = "odd"
        · rw [if_pos h, if_pos (decide_eq_true h)]
        · rw [if_neg h, if_neg (by rw [decide_eq_false h]; decide)]
      rw [e]
      exact .bl _
def rReadyL (N : Net) (ds : List PyData) (d : PyData) : Prop := ∃ s, ds = [eW s] ∧ d = eW (readyL N s)
theorem c_ready_in (Y : Env K mg C) : Def P w K mg base (Str.ofString "ready_in") 3 ["net", "setting"] (spN K C rReadyL) := by
  refine def_mk Y.t_ready_in sc_ready_in bb_ready_in (fun vs H Q E h => ?_) (fun f cdv A outer s H vs Q E hr h => ?_)
  · obtain ⟨S, v, rest, N, ds, d, rfl, hS, hN, g, h, ⟨s, rfl, _⟩, k⟩ := h
    exact congrArg Nat.succ (DpAll.length h)
  · obtain ⟨S, v, rest, N, ds, d, rfl, hS, hN, g, h, ⟨st, rfl, rfl⟩, k⟩ := h
    obtain ⟨u, rfl, h1⟩ := da1 h
    have hN2 := hN
    obtain ⟨n, dx, b, e, w, r, f, k', rfl, a1, a2, a3, a4, ⟨nb, a5, a7⟩, a6⟩ := hN.mono hid_le
    refine ⟨_, (pss_one (ps_ret (pe_lc (own := [("lamp", 2)]) rfl sc_ready_in.nd (K_pil (K := K) rfl (K_fld (K := K) rfl (pv 0) rfl)) (blkOk_by (own := [("lamp", 2)]) (N := ["net", "setting", "lamp"]) (sc := defScope s_ready_in) (by decide +kernel)) (fun _ _ _ _ _ => (pg_name (i := 2) sc_ready_in.nd rfl (Or.inl rfl))) (fun _ _ _ _ _ => (pts_one (pt_val (pe_def (c_is_ready_in Y) (hr.mono (by decide)) (pa_cons (pv 0) (pa_cons (pv 1) (pa_cons (pv 2) pa_nil))))))) (fun _ _ _ _ _ => (pv 2))))), ?_⟩
    refine ⟨_, rfl, n, C, dx, _, _, rfl, a1, Y.isN.cl, Y.f_free, rfl, f, rfl, ⟨_, a6⟩, fun D hD => ?_⟩
    refine lcT (K := K) (items := freeF N) (S := S) walkW (readyF N st) (fun l => .str l) hD hS (by have := g.few; have := List.length_filter_le (fun l => decide (N.wish l ≠ "stuck")) N.lamps; unfold freeF; omega) (fun H' kp => kp.same.seq a6) ?_ ?_
    · rintro i x x1 Ha Hb Yes No hi kp hL ⟨rfl, y⟩ yes no
      obtain rfl := y x hi
      have hm : x ∈ N.lamps := (List.mem_filter.mp (List.mem_of_getElem? hi)).1
      have m : Same (hid S H) (hid (D :: S) Hb) := by
        rw [← hid_cons hD]
        exact kp.hid0
      refine ⟨rfl, _, rfl, _, rfl, _, rfl, D :: S, .ref n, _, N, _, _, rfl, hL, hN2.mono m, g, .cons (Dp.mono m h1) (.cons (.str x) .nil), ⟨st, x, rfl, hm, rfl⟩, fun v1 H1 kp1 hv => ?_⟩
      obtain rfl := dp_bl hv
      refine ⟨_, rfl, ?_⟩
      by_cases h : readyF N st x = true
      · exact if_yes h ⟨_, rfl, yes _ _ kp1 h (.str x)⟩
      · have h' : readyF N st x = false := by simpa using h
        exact if_no h' (no _ kp1 h')
    · intro Ha ys2 kp hL hl2 hle da dp
      exact k _ _ kp dp
def rFlip (ds : List PyData) (d : PyData) : Prop := ∃ s l, ds = [eW s, .str l] ∧ s.length ≤ 1000 ∧ d = eW (flipF s l)
theorem c_flipped (Y : Env K mg C) : Def P w K mg base (Str.ofString "flipped") 1 ["setting", "lamp"] (spR K rFlip) := by
  refine def_mk Y.t_flipped sc_flipped bb_flipped (fun vs H Q E h => ?_) (fun f cdv A outer s H vs Q E hr h => ?_)
  · obtain ⟨S, ds, d, _, h, ⟨s, l, rfl, _⟩, _⟩ := h
    exact DpAll.length h
  · obtain ⟨S, ds, d, hS, h, ⟨st, l, rfl, hn, rfl⟩, k⟩ := h
    obtain ⟨u, u2, rfl, h1, h2⟩ := da2 h
    obtain rfl := dp_str h2
    obtain ⟨a, rfl, hl⟩ := dp_words h1
    have hl0 : SqL K H a _ := Same.seq hid_le hl
    refine ⟨_, (pss_cons (ps_if (pt_cmpR (K_in_seq (K := K) rfl) (pv 1) (pv 0) rfl) (pss_one (ps_ret (pe_lc (own := [("other", 2)]) rfl sc_flipped.nd (K_pil (K := K) rfl (pv 0)) (blkOk_by (own := [("other", 2)]) (N := ["setting", "lamp", "other"]) (sc := defScope s_flipped) (by decide +kernel)) (fun _ _ _ _ _ => (pg_name (i := 2) sc_flipped.nd rfl (Or.inl rfl))) (fun _ _ _ _ _ => (pts_one (pt_cmpR op_ne (pv 2) (pv 1) (nomark _)))) (fun _ _ _ _ _ => (pv 2))))) pss_nil)
    (pss_one (ps_ret (pe_callB (K_sort (K := K) rfl (hu100 hr)) (by rfl) Y.n_sorted (by decide +kernel) (pa_cons (pe_lst (StX.pa_star (pv 0) (pa_cons (pv 1) pa_nil))) pa_nil))))), ?_⟩
    refine ⟨_, rfl, _, rfl, a, _, rfl, .inl hl0, rfl, flat_strs _, _, rfl, ?_⟩
    have q : (if false = true then !inV (.str l) (st.map L2.V.str) else inV (.str l) (st.map L2.V.str)) = decide (l ∈ st) := by
      rw [if_neg (by decide), inV_str]
    rw [q]
    unfold flipF at k
    by_cases hm : l ∈ st
    · rw [if_pos hm] at k
      refine if_yes (decide_eq_true hm) ?_
      refine ⟨_, rfl, a, rfl, ⟨_, hl0⟩, fun D hD => ?_⟩
      refine lcT (K := K) (items := st) (S := S) walkW (fun o => decide (o ≠ l)) (fun l => .str l) hD hS (by omega) (fun H' kp => kp.same.seq hl0) ?_ ?_
      · rintro i x x1 Ha Hb Yes No hi kp hL ⟨rfl, y⟩ yes no
        obtain rfl := y x hi
        refine ⟨rfl, _, rfl, _, rfl, rfl, _, rfl, ?_⟩
        rw [str_eqb]
        by_cases h : x = l
        · refine if_no (by rw [decide_eq_true h]; rfl) (no _ .refl (by simpa using h))
        · refine if_yes (by rw [decide_eq_false h]; rfl) ⟨_, rfl, yes _ _ .refl (by simpa using h) (.str x)⟩
      · intro Ha ys2 kp hL hl2 hle da dp
        exact k _ _ kp dp
    · rw [if_neg hm] at k
      refine if_no (decide_eq_false hm) ?_
      refine ⟨_, rfl, a, _, rfl, .inr hl0, _, rfl, by rw [List.length_append, List.length_map, sizeLine_eq]; show st.length + 1 ≤ _; omega, fun p np => ?_⟩
      refine sort_words (ws := st ++ [l]) (.inl (.inl ?_)) fun p2 np2 => ?_
      · rw [upd_same, List.map_append]
        rfl
      · refine k _ _ ((kp_new np).new np2) ?_
        have h2 : p2 ∉ S := not_mem_of (hS.upd) np2
        exact words_dp (.inl (.inl (hid_at upd_same h2)))
end
end K41
namespace K41
open PySem PySem.Spec PyProof.Rows L2 PySem.W
/-! ### the walk in layers -/
abbrev Fd := List (List Str × Nat)
def keysF (f : Fd) : List (List Str) := f.map (·.1)
def lkF (f : Fd) (k : List Str) : Nat := ((f.find? fun p => decide (p.1 = k)).map (·.2)).getD 0
def add1 (here : List Str) (acc : Fd × List (List Str)) (l : Str) : Fd × List (List Str) :=
  if flipF here l ∈ keysF acc.1 then acc else (acc.1 ++ [(flipF here l, lkF acc.1 here + 1)], acc.2 ++ [flipF here l])
def addH (N : Net) (acc : Fd × List (List Str)) (here : List Str) : Fd × List (List Str) := (readyL N here).foldl (add1 here) acc
def levelF (N : Net) (f : Fd) (w : List (List Str)) : Fd × List (List Str) := w.foldl (addH N) (f, [])
inductive Runs (N : Net) : Fd → List (List Str) → Fd → Prop where
  | done (f : Fd) : Runs N f [] f
  | step {f g : Fd} {w : List (List Str)} : w ≠ [] → Runs N (levelF N f w).1 (levelF N f w).2 g → Runs N f w g
def Layers (N : Net) (s : List Str) (g : Fd) : Prop := Runs N [(s, 0)] [s] g
theorem Runs.det {N : Net} {f g h : Fd} {w : List (List Str)} (a : Runs N f w g) : Runs N f w h → g = h := by
  induction a with
  | done f => intro b; cases b with
    | done => rfl
    | step h _ => exact absurd rfl h
  | step hw _ ih => intro b; cases b with
    | done => exact absurd rfl hw
    | step _ b => exact ih b
theorem Layers.det {N : Net} {s : List Str} {g h : Fd} (a : Layers N s g) (b : Layers N s h) : g = h := Runs.det a b
/-! the lamps' own sets -/
theorem flip_set {N : Net} {s : List Str} {l : Str} (h : IsSet N s) (hl : l ∈ N.lamps) : IsSet N (flipF s l) := by
  unfold flipF
  by_cases hm : l ∈ s
  · rw [if_pos hm]
    exact ⟨h.pw.filter _, fun x hx => h.sub x (List.mem_filter.mp hx).1⟩
  · rw [if_neg hm]
    refine ⟨srt_lt ?_, fun x hx => ?_⟩
    · refine List.nodup_append.mpr ⟨lt_nodup h.pw, List.pairwise_singleton _ _, fun a ha b hb e => ?_⟩
      rw [List.mem_singleton.mp hb] at e
      exact hm (e ▸ ha)
    · rcases List.mem_append.mp (srt_mem.mp hx) with hx | hx
      · exact h.sub x hx
      · rw [List.mem_singleton.mp hx]
        exact hl
theorem mem_flip {s : List Str} {l x : Str} : x ∈ flipF s l ↔ (if x = l then ¬ l ∈ s else x ∈ s) := by
  unfold flipF
  by_cases hm : l ∈ s
  · rw [if_pos hm, List.mem_filter, decide_eq_true_eq]
    by_cases e : x = l
    · subst e
      simp [hm]
    · simp [e]
  · rw [if_neg hm, srt_mem, List.mem_append, List.mem_singleton]
    by_cases e : x = l
    · subst e
      simp [hm]
    · simp [e]
theorem flip_flip {N : Net} {s : List Str} {l : Str} (h : IsSet N s) (hl : l ∈ N.lamps) : flipF (flipF s l) l = s := by
  refine lt_eq (flip_set (flip_set h hl) hl).pw h.pw fun x => ?_
  rw [mem_flip, mem_flip]
  by_cases e : x = l
  · subst e
    rw [if_pos rfl, if_pos rfl]
    simp
  · rw [if_neg e, mem_flip, if_neg e]
/-! keeping the keys in order -/
structure KeysOk (N : Net) (f : Fd) : Prop where
  nd : (keysF f).Nodup
  sets : ∀ k ∈ keysF f, IsSet N k
  small : ∀ p ∈ f, p.2 < f.length
theorem lkF_lt {f : Fd} (h : ∀ p ∈ f, p.2 < f.length) {k : List Str} (hk : k ∈ keysF f) : lkF f k < f.length := by
  unfold lkF
  cases e : f.find? fun p => decide (p.1 = k) with
  | none =>
    obtain ⟨p, hp, _⟩ := List.mem_map.mp hk
    exact List.length_pos_of_mem hp
  | some p => exact h p (List.mem_of_find?_eq_some e)
theorem keys_app {f g : Fd} : keysF (f ++ g) = keysF f ++ keysF g := List.map_append
theorem free_lamp {N : Net} {s : List Str} {l : Str} (h : l ∈ readyL N s) : l ∈ N.lamps := (List.mem_filter.mp (List.mem_filter.mp h).1).1
structure Acc (N : Net) (f0 : Fd) (acc : Fd × List (List Str)) : Prop where
  ok : KeysOk N acc.1
  grow : ∀ k ∈ keysF f0, k ∈ keysF acc.1
  new : ∀ k ∈ acc.2, k ∈ keysF acc.1
  len : acc.1.length = f0.length + acc.2.length
theorem Acc.add1 {N : Net} {f0 : Fd} {acc : Fd × List (List Str)} {here : List Str} {l : Str} (a : Acc N f0 acc) (hh : here ∈ keysF acc.1) (hl : l ∈ N.lamps) : Acc N f0 (add1 here acc l) := by
  unfold K41.add1
  by_cases hm : flipF here l ∈ keysF acc.1
  · rw [if_pos hm]
    exact a
  · rw [if_neg hm]
    refine ⟨⟨?_, fun k hk => ?_, fun p hp => ?_⟩, fun k hk => ?_, fun k hk => ?_, ?_⟩
    · show (keysF (acc.1 ++ [(flipF here l, lkF acc.1 here + 1)])).Nodup
      rw [keys_app]
      refine List.nodup_append.mpr ⟨a.ok.nd, List.pairwise_singleton _ _, fun x hx y hy e => ?_⟩
      rw [List.mem_singleton.mp hy] at e
      have e' : x = flipF here l := e
      exact hm (e' ▸ hx)
    · have hk' : k ∈ keysF (acc.1 ++ [(flipF here l, lkF acc.1 here + 1)]) := hk
      rw [keys_app] at hk'
      rcases List.mem_append.mp hk' with hk | hk
      · exact a.ok.sets k hk
      · rw [List.mem_singleton.mp hk]
        exact flip_set (a.ok.sets here hh) hl
    · have hp' : p ∈ acc.1 ++ [(flipF here l, lkF acc.1 here + 1)] := hp
      show p.2 < (acc.1 ++ [(flipF here l, lkF acc.1 here + 1)]).length
      rw [List.length_append, List.length_singleton]
      rcases List.mem_append.mp hp' with hp | hp
      · have := a.ok.small p hp
        omega
      · rw [List.mem_singleton.mp hp]
        have := lkF_lt a.ok.small hh
        show lkF acc.1 here + 1 < acc.1.length + 1
        omega
    · show k ∈ keysF (acc.1 ++ [(flipF here l, lkF acc.1 here + 1)])
      rw [keys_app]
      exact List.mem_append_left _ (a.grow k hk)
    · show k ∈ keysF (acc.1 ++ [(flipF here l, lkF acc.1 here + 1)])
      rw [keys_app]
      rcases List.mem_append.mp hk with hk | hk
      · exact List.mem_append_left _ (a.new k hk)
      · rw [List.mem_singleton.mp hk]
        exact List.mem_append_right _ (List.mem_singleton.mpr rfl)
    · show (acc.1 ++ [(flipF here l, lkF acc.1 here + 1)]).length = f0.length + (acc.2 ++ [flipF here l]).length
      rw [List.length_append, List.length_append, a.len, List.length_singleton, List.length_singleton]
      omega
theorem add1_mono {here k : List Str} {acc : Fd × List (List Str)} {l : Str} (h : k ∈ keysF acc.1) : k ∈ keysF (add1 here acc l).1 := by
  unfold add1
  split
  · exact h
  · show k ∈ keysF (acc.1 ++ _)
    rw [keys_app]
    exact List.mem_append_left _ h
theorem Acc.fold1 {N : Net} {f0 : Fd} {here : List Str} : ∀ {ls : List Str} {acc : Fd × List (List Str)}, Acc N f0 acc → here ∈ keysF acc.1 → (∀ l ∈ ls, l ∈ N.lamps) → Acc N f0 (ls.foldl (K41.add1 here) acc) ∧ ∀ k ∈ keysF acc.1, k ∈ keysF (ls.foldl (K41.add1 here) acc).1
  | [], acc, a, _, _ => ⟨a, fun k hk => hk⟩
  | l :: ls, acc, a, hh, hl => by
    have a1 := a.add1 hh (hl l (List.mem_cons_self ..))
    obtain ⟨h1, h2⟩ := Acc.fold1 (ls := ls) a1 (add1_mono hh) fun x hx => hl x (List.mem_cons_of_mem _ hx)
    exact ⟨h1, fun k hk => h2 k (add1_mono hk)⟩
theorem Acc.foldH {N : Net} {f0 : Fd} : ∀ {w : List (List Str)} {acc : Fd × List (List Str)}, Acc N f0 acc → (∀ k ∈ w, k ∈ keysF acc.1) → Acc N f0 (w.foldl (addH N) acc) ∧ ∀ k ∈ keysF acc.1, k ∈ keysF (w.foldl (addH N) acc).1
  | [], acc, a, _ => ⟨a, fun k hk => hk⟩
  | h :: w, acc, a, hw => by
    obtain ⟨a1, m1⟩ := a.fold1 (here := h) (ls := readyL N h) (hw h (List.mem_cons_self ..)) fun l hl => free_lamp hl
    obtain ⟨h1, h2⟩ := Acc.foldH (w := w) (acc := addH N acc h) a1 fun k hk => m1 k (hw k (List.mem_cons_of_mem _ hk))
    exact ⟨h1, fun k hk => h2 k (m1 k hk)⟩
theorem acc0 {N : Net} {f : Fd} (h : KeysOk N f) : Acc N f (f, []) := ⟨h, fun k hk => hk, fun k hk => absurd hk (by simp), rfl⟩
/-! there are few of them -/
def subsL : List Str → List (List Str)
  | [] => [[]]
  | x :: xs => subsL xs ++ (subsL xs).map (x :: ·)
theorem subsL_len : ∀ xs : List Str, (subsL xs).length = 2 ^ xs.length
  | [] => rfl
  | x :: xs => by
    show (subsL xs ++ (subsL xs).map (x :: ·)).length = _
    rw [List.length_append, List.length_map, subsL_len xs, List.length_cons, Nat.pow_succ]
    omega
theorem filter_subsL (p : Str → Bool) : ∀ xs : List Str, xs.filter p ∈ subsL xs
  | [] => List.mem_singleton.mpr rfl
  | x :: xs => by
    show (x :: xs).filter p ∈ subsL xs ++ (subsL xs).map (x :: ·)
    rw [List.filter_cons]
    split
    · exact List.mem_append_right _ (List.mem_map.mpr ⟨_, filter_subsL p xs, rfl⟩)
    · exact List.mem_append_left _ (filter_subsL p xs)
theorem nodup_len {α : Type} [DecidableEq α] : ∀ {l m : List α}, l.Nodup → (∀ x ∈ l, x ∈ m) → l.length ≤ m.length
  | [], m, _, _ => Nat.zero_le _
  | a :: l, m, hn, h => by
    have hn' := List.nodup_cons.mp hn
    have ha := h a (List.mem_cons_self ..)
    have ih := nodup_len (l := l) (m := m.erase a) hn'.2 fun x hx => (List.mem_erase_of_ne (fun e : x = a => hn'.1 (e ▸ hx))).mpr (h x (List.mem_cons_of_mem _ hx))
    rw [List.length_erase_of_mem ha] at ih
    have := List.length_pos_of_mem ha
    rw [List.length_cons]
    omega
theorem KeysOk.few {N : Net} {f : Fd} (g : Good N) (h : KeysOk N f) : f.length ≤ 256 := by
  have q := nodup_len (m := subsL N.lamps) h.nd fun k hk => by
    rw [(h.sets k hk).eq g]
    exact filter_subsL _ _
  rw [subsL_len, keysF, List.length_map] at q
  have : 2 ^ N.lamps.length ≤ 2 ^ 8 := Nat.pow_le_pow_right (by omega) g.few
  have e : (2 : Nat) ^ 8 = 256 := by decide
  omega
/-! as a dict -/
def eF (f : Fd) : List (List Key × V) := f.map fun p => (p.1.map Sum.inr, .int (p.2 : Int))
theorem keyS_inj {a b : List Str} (h : (a.map Sum.inr : List Key) = b.map Sum.inr) : a = b := by
  induction a generalizing b with
  | nil => cases b with
    | nil => rfl
    | cons y b => simp at h
  | cons x a ih => cases b with
    | nil => simp at h
    | cons y b =>
      simp only [List.map_cons, List.cons.injEq, Sum.inr.injEq] at h
      rw [h.1, ih h.2]
theorem valV_eF : ∀ (f : Fd) (k : List Str), valV (eF f) (k.map Sum.inr : List Key) = if k ∈ keysF f then some (.int (lkF f k : Int)) else none
  | [], k => by
    rw [if_neg (by simp [keysF])]
    rfl
  | p :: f, k => by
    show valV ((p.1.map Sum.inr, V.int (p.2 : Int)) :: eF f) (k.map Sum.inr : List Key) = _
    by_cases e : p.1 = k
    · rw [valV_pos (by show p.1.map Sum.inr = _; rw [e]), if_pos (by rw [← e]; exact List.mem_cons_self ..)]
      show some (V.int (p.2 : Int)) = some (V.int ((((p :: f).find? fun p => decide (p.1 = k)).map (·.2)).getD 0 : Nat))
      rw [List.find?_cons, decide_eq_true e]
      rfl
    · have ne : ¬ (p.1.map Sum.inr : List Key) = k.map Sum.inr := fun z => e (keyS_inj z)
      rw [valV_neg (p := (p.1.map Sum.inr, V.int (p.2 : Int))) ne, valV_eF f k]
      have hk : (k ∈ keysF (p :: f)) ↔ k ∈ keysF f := by
        show k ∈ p.1 :: keysF f ↔ _
        rw [List.mem_cons]
        exact ⟨fun h => h.resolve_left fun z => e z.symm, .inr⟩
      have hl : lkF (p :: f) k = lkF f k := by
        unfold lkF
        rw [List.find?_cons, decide_eq_false e]
      by_cases hm : k ∈ keysF f
      · rw [if_pos hm, if_pos (hk.mpr hm), hl]
      · rw [if_neg hm, if_neg fun z => hm (hk.mp z)]
theorem putK_eF {f : Fd} {k : List Str} {n : Nat} (h : k ∉ keysF f) : putK (eF f) (k.map Sum.inr : List Key) (.int (n : Int)) = eF (f ++ [(k, n)]) := by
  rw [putK_new _ (by rw [valV_eF, if_neg h])]
  unfold eF
  rw [List.map_append]
  rfl
theorem eF_len {f : Fd} : (eF f).length = f.length := List.length_map ..
end K41
namespace K41
open PySem PySem.Spec PyProof.Rows L2 PySem.W
theorem kV_inr (ws : List Str) : ((ws.map Sum.inr : List Key).map kV) = ws.map V.str := by
  rw [List.map_map]
  rfl
theorem dget_tup {H : Hp} {d b : Addr} {f : Fd} {k : List Str} (h : H d = some (.dT (eF f))) (hb : H b = some (.tup (k.map V.str))) : DGet H d (.ref b) (if k ∈ keysF f then some (.int (lkF f k : Int)) else none) := by
  have q := DGet.t (k := (k.map Sum.inr : List Key)) h (by rw [kV_inr]; exact hb)
  rwa [valV_eF] at q
theorem dput_tup {H : Hp} {d b : Addr} {f : Fd} {k : List Str} {n : Nat} (h : H d = some (.dT (eF f))) (hb : H b = some (.tup (k.map V.str))) (hk : k ∉ keysF f) (hl : f.length ≤ 1000) : DPut H d (.ref b) (.int (n : Int)) (upd H d (.dT (eF (f ++ [(k, n)])))) := by
  have q := DPut.t (k := (k.map Sum.inr : List Key)) (v := .int (n : Int)) h (by rw [kV_inr]; exact hb) (by rw [eF_len, sizeLine_eq]; omega)
  rwa [putK_eF hk] at q
/-- the walk's state within a level: the dict at D, the new list at lt -/
structure Sta (K : PySem.W.Frag) (N : Net) (S : List Addr) (G Hl : Hp) (D lt : Addr) (f0 : Fd) (acc : Fd × List (List Str)) (H : Hp) : Prop where
  bas : Kp [] G H
  lev : Kp [D, lt] Hl H
  fd : H D = some (.dT (eF acc.1))
  lat : ∃ ys, H lt = some (.lst ys) ∧ DpAll K (hid (lt :: D :: S) H) ys (acc.2.map eW)
  ok : Acc N f0 acc
section
variable {K : PySem.W.Frag} {N : Net} {S : List Addr} {G Hl H H' : Hp} {D lt : Addr} {f0 : Fd} {acc : Fd × List (List Str)}
theorem Sta.kp (s : Sta K N S G Hl D lt f0 acc H) (k : Kp [] H H') : Sta K N S G Hl D lt f0 acc H' := by
  obtain ⟨ys, h1, h2⟩ := s.lat
  exact ⟨s.bas.trans k, s.lev.trans k.nil, k.same _ _ s.fd, ⟨ys, k.same _ _ h1, DpAll.mono k.hid0 h2⟩, s.ok⟩
theorem Sta.ne (s : Sta K N S G Hl D lt f0 acc H) : D ≠ lt := fun e => by
  obtain ⟨ys, h1, _⟩ := s.lat
  have h := s.fd
  rw [e, h1] at h
  cases h
theorem Sta.put {k : List Str} {n : Nat} {v : V} {ys : List V} {acc' : Fd × List (List Str)} (s : Sta K N S G Hl D lt f0 acc H) (gD : G D = none) (gl : G lt = none) (hy : H lt = some (.lst ys)) (dy : DpAll K (hid (lt :: D :: S) H) ys (acc.2.map eW))
    (hv : Dp K (hid (lt :: D :: S) H) v (eW k)) (e : acc' = (acc.1 ++ [(k, n)], acc.2 ++ [k])) (ok : Acc N f0 acc') : Sta K N S G Hl D lt f0 acc' (upd (upd H D (.dT (eF (acc.1 ++ [(k, n)])))) lt (.lst (ys ++ [v]))) := by
  subst e
  have hne := s.ne
  refine ⟨((s.bas.put gD).put gl), (s.lev.own (List.mem_cons_self ..)).own (List.mem_cons_of_mem _ (List.mem_cons_self ..)), by rw [upd_ne hne, upd_same], ⟨_, upd_same, ?_⟩, ok⟩
  rw [hid_in (List.mem_cons_self ..), hid_in (List.mem_cons_of_mem _ (List.mem_cons_self ..)), List.map_append]
  exact DpAll.append dy (.cons hv .nil)
theorem Sta.live (s : Sta K N S G Hl D lt f0 acc H) (l : Live S G) : Live (lt :: D :: S) H := by
  obtain ⟨ys, h1, _⟩ := s.lat
  exact ((s.bas.live l).cons s.fd).cons h1
theorem Sta.facts (s : Sta K N S G Hl D lt f0 acc H) (gD : G D = none) (gl : G lt = none) : Same (hid S G) (hid (lt :: D :: S) H) := by
  have e : hid (lt :: D :: S) G = hid S G := by rw [hid_cons gl, hid_cons gD]
  rw [← e]
  exact s.bas.hid0
end
theorem eqv_nil (w : List (List Str)) : PyData.eqv (.list (w.map eW)) (.list []) = decide (w = []) := by
  cases w <;> simp [PyData.eqv, PyData.eqvAll]
theorem foldl_take {α β : Type} {f : β → α → β} {b : β} {l : List α} {i : Nat} {x : α} (h : l[i]? = some x) : (l.take (i + 1)).foldl f b = f ((l.take i).foldl f b) x := by
  rw [take_snoc' h, List.foldl_append]
  rfl
/-- the walk between two levels -/
structure Mid (K : PySem.W.Frag) (N : Net) (S : List Addr) (G : Hp) (s : List Str) (D wl : Addr) (f : Fd) (w : List (List Str)) (H : Hp) : Prop where
  bas : Kp [] G H
  fd : H D = some (.dT (eF f))
  wt : ∃ xs, SqL K (hid (D :: S) H) wl xs ∧ DpAll K (hid (D :: S) H) xs (w.map eW)
  ok : KeysOk N f
  sub : ∀ k ∈ w, k ∈ keysF f
  run : ∀ g, Runs N f w g → Layers N s g
theorem Good.lows {N : Net} (g : Good N) {s : List Str} (h : IsSet N s) : ∀ x ∈ s, Low x := fun x hx => (g.words x (h.sub x hx)).low
section
variable {P : Program} {w : World} {K : PySem.W.Frag} {mg : Str → Option Value} {base : Heap} {C : Addr}
def spLayers (K : PySem.W.Frag) (C : Addr) : Sp := fun vs H Q _ => ∃ (S : List Addr) (v u : L2.V) (N : Net) (s : List Str), vs = [v, u] ∧ Live S H ∧ NetV K C (hid S H) v N ∧ Good N ∧ Dp K (hid S H) u (eW s) ∧ IsSet N s ∧
  ∀ d H' g, Kp [] H H' → H d = none → H' d = some (.dT (eF g)) → Layers N s g → KeysOk N g → Q (.ref d) H'
theorem c_layers_from (Y : Env K mg C) : Def P w K mg base (Str.ofString "layers_from") 4 ["net", "setting"] (spLayers K C) := by
  refine def_mk Y.t_layers_from sc_layers_from bb_layers_from (fun vs H Q E h => ?_) (fun f cdv A outer s H vs Q E hr h => ?_)
  · obtain ⟨S, v, u, N, s, rfl, _⟩ := h
    rfl
  · obtain ⟨S, v, u, N, st, rfl, hS, hN, g, h1, hs, k⟩ := h
    have hu := hu_of hr
    obtain ⟨a, rfl, hl⟩ := dp_words h1
    have hl0 : SqL K H a _ := Same.seq hid_le hl
    refine ⟨_, (pss_cons (ps_par (i := 2) (j := 3) rfl sc_layers_from.nd rfl rfl (by decide) rfl rfl (pa_cons (pe_disp1 (hu_of hr) (pe_callTy (K_tuple (K := K) rfl) (by rfl) Y.n_tuple (by decide +kernel) (pa_cons (pv 1) pa_nil)) pe_int) (pa_cons (pe_lst (pa_cons (pe_callTy (K_list (K := K) rfl) (by rfl) Y.n_list (by decide +kernel) (pa_cons (pv 1) pa_nil)) pa_nil)) pa_nil)) rfl)
    (pss_cons (ps_while PassesOwn.never (pt_cmpR (K_neD (K := K) rfl (hu65 hr)) (pv 3) (pe_lst pa_nil) (nomark _))
    (pss_cons (ps_set (i := 4) sc_layers_from.nd rfl (Or.inl rfl) (pe_lst pa_nil))
    (pss_cons (ps_for PassesOwn.never rfl (K_pil (K := K) rfl (pv 3)) (pg_name (i := 5) sc_layers_from.nd rfl (Or.inl rfl))
    (pss_one (ps_for PassesOwn.never rfl (K_pil (K := K) rfl (pe_def (c_ready_in Y) (hr.mono (by decide)) (pa_cons (pv 0) (pa_cons (pv 5) pa_nil)))) (pg_name (i := 6) sc_layers_from.nd rfl (Or.inl rfl))
    (pss_cons (ps_set (i := 7) sc_layers_from.nd rfl (Or.inl rfl) (pe_def (c_flipped Y) (hr.mono (by decide)) (pa_cons (pv 5) (pa_cons (pv 6) pa_nil))))
    (pss_one (ps_if (pt_cmp (pc_dnotin (hu_of hr) (pe_callTy (K_tuple (K := K) rfl) (by rfl) Y.n_tuple (by decide +kernel) (pa_cons (pv 7) pa_nil)) (pv 2))) (pss_cons (ps_dput (hu_of hr) (pv 2) (pe_callTy (K_tuple (K := K) rfl) (by rfl) Y.n_tuple (by decide +kernel) (pa_cons (pv 7) pa_nil)) (pe_op op_add (pe_dget (hu_of hr) (pv 2) (pe_callTy (K_tuple (K := K) rfl) (by rfl) Y.n_tuple (by decide +kernel) (pa_cons (pv 5) pa_nil)) (fun _ _ => rfl)) pe_int) rfl)
    (pss_one (ps_expr (K_bm (K := K) rfl PySem.F.plainAttrs_list PySem.F.slot_list_append PySem.F.type_list_append mt_append (pv 4) (pa_cons (pv 7) pa_nil))))) pss_nil))))))
    (pss_one (ps_set (i := 3) sc_layers_from.nd rfl (Or.inl rfl) (pv 4))))))
    (pss_one (ps_ret (pv 2))))), ?_⟩
    intro D nD
    refine ⟨_, rfl, a, _, rfl, .inl ⟨(same_new nD).seq hl0, fun q nq => ?_⟩⟩
    have eDq : D ≠ q := ne_of_none upd_same nq
    refine ⟨by rw [upd_ne eDq, upd_same], q, st.map Sum.inr, rfl, by rw [upd_same, kV_inr], ?_⟩
    have kA : Kp [] H (upd (upd (upd H D (.dT [])) q (.tup (st.map L2.V.str))) D (.dT [(st.map Sum.inr, .int 0)])) := ((kp_new nD).new nq).put nD
    have dA : (upd (upd (upd H D (.dT [])) q (.tup (st.map L2.V.str))) D (.dT [(st.map Sum.inr, .int 0)])) D = some (.dT (eF [(st, 0)])) := upd_same
    generalize (upd (upd (upd H D (.dT [])) q (.tup (st.map L2.V.str))) D (.dT [(st.map Sum.inr, .int 0)])) = HA at kA dA ⊢
    refine ⟨_, rfl, a, _, rfl, .inl (kA.same.seq hl0), fun l1 n1 => ⟨by show 1 ≤ sizeLine; decide, fun wl nw => ⟨_, _, rfl, ?_⟩⟩⟩
    have e1w : l1 ≠ wl := ne_of_none upd_same nw
    have kB : Kp [] H (upd (upd HA l1 (.lst (st.map L2.V.str))) wl (.lst [.ref l1])) := (kA.new n1).new nw
    have dB : (upd (upd HA l1 (.lst (st.map L2.V.str))) wl (.lst [.ref l1])) D = some (.dT (eF [(st, 0)])) := ((kp_new (T := []) n1).new nw).same _ _ dA
    have wB : (upd (upd HA l1 (.lst (st.map L2.V.str))) wl (.lst [.ref l1])) wl = some (.lst [.ref l1]) := upd_same
    have lB : (upd (upd HA l1 (.lst (st.map L2.V.str))) wl (.lst [.ref l1])) l1 = some (.lst (st.map L2.V.str)) := by rw [upd_ne e1w, upd_same]
    have f1 := kA.free n1
    have fw := (kA.new n1).free nw
    generalize (upd (upd HA l1 (.lst (st.map L2.V.str))) wl (.lst [.ref l1])) = HB at kB dB wB lB ⊢
    have hDS : D ∉ S := not_mem_of hS nD
    have ni : ∀ {x : Addr} {o : HO}, H x = none → HB x = some o → x ≠ D → hid (D :: S) HB x = some o := fun f e ne => hid_at e (by
      intro z
      rcases List.mem_cons.mp z with z | z
      · exact ne z
      · exact not_mem_of hS f z)
    have neD : ∀ {x : Addr} {xs : List L2.V}, HB x = some (.lst xs) → x ≠ D := fun e z => by
      rw [z, dB] at e
      cases e
    have mid0 : Mid K N S H st D wl [(st, 0)] [st] HB := ⟨kB, dB, ⟨[.ref l1], .inl (.inl (ni fw wB (neD wB))), .cons (words_dp (.inl (.inl (ni f1 lB (neD lB))))) .nil⟩, ⟨List.pairwise_singleton _ _, fun k hk => by rw [List.mem_singleton.mp hk]; exact hs, fun p hp => by rw [List.mem_singleton.mp hp]; show 0 < 1; decide⟩, fun k hk => hk, fun g h => h⟩
    refine ⟨fun m σ Hc => ∃ (f : Fd) (wt : List (List Str)) (wl : Addr) (o4 o5 o6 o7 : Option L2.V), σ = [some v, some (.ref a), some (.ref D), some (.ref wl), o4, o5, o6, o7] ∧ m = 2 * (256 - f.length) + (if wt = [] then 0 else 1) ∧ Mid K N S H st D wl f wt Hc,
      ⟨_, [(st, 0)], [st], wl, none, none, none, none, rfl, rfl, mid0⟩, ?_⟩
    rintro m σ Hc ⟨f, wt, wl, o4, o5, o6, o7, rfl, rfl, M⟩
    obtain ⟨xs, hx1, hx2⟩ := M.wt
    refine ⟨_, rfl, Nat.zero_le _, fun p np => ?_⟩
    have kC : Kp [] Hc (upd Hc p (.lst [])) := kp_new np
    have shw : SeqAt.shaped (.list (wt.map eW)) = true := (fine_list fun x hx => fine_words (g.lows (M.ok.sets x (M.sub x hx)))).shaped (n := 2) (by decide)
    refine ⟨.list (wt.map eW), .list [], Dp.mono (hid_le.trans kC.same) (.lst hx1 hx2), .lst (.inl (.inl upd_same)) .nil, shw, by decide, _, rfl, ?_⟩
    rw [eqv_nil]
    by_cases hw : wt = []
    · subst hw
      refine if_no (by rw [decide_eq_true rfl]; rfl) ?_
      exact ⟨_, rfl, k D _ f (M.bas.trans kC) nD (kC.same _ _ M.fd) (M.run f (.done f)) M.ok⟩
    refine if_yes (by rw [decide_eq_false hw]; rfl) ?_
    rw [if_neg hw]
    refine ⟨_, fun σ' H' h => h, ?_⟩
    refine ⟨Nat.zero_le _, fun lt nlt => ?_⟩
    have kL : Kp [] Hc (upd (upd Hc p (.lst [])) lt (.lst [])) := kC.new nlt
    have gl : H lt = none := M.bas.free (kC.free nlt)
    have sta0 : Sta K N S H (upd (upd Hc p (.lst [])) lt (.lst [])) D lt f (f, []) (upd (upd Hc p (.lst [])) lt (.lst [])) := ⟨M.bas.trans kL, .refl, kL.same _ _ M.fd, ⟨[], upd_same, .nil⟩, acc0 M.ok⟩
    have hxl : Same (hid (D :: S) Hc) (hid (lt :: D :: S) (upd (upd Hc p (.lst [])) lt (.lst []))) := by
      rw [← hid_cons (S := D :: S) (kC.free nlt)]
      exact kL.hid0
    generalize (upd (upd Hc p (.lst [])) lt (.lst [])) = Hl at kL sta0 hxl ⊢
    have tin : ∀ b ∈ [D, lt], b ∈ lt :: D :: S := fun b hb => by
      rcases List.mem_cons.mp hb with rfl | hb
      · exact List.mem_cons_of_mem _ (List.mem_cons_self ..)
      · rw [List.mem_singleton.mp hb]
        exact List.mem_cons_self ..
    refine ⟨_, rfl, wl, rfl, ⟨_, hid_le.seq (hxl.seq hx1)⟩, ?_⟩
    refine for_it (walkD hx2) (fun i σ H' => ∃ o5 o6 o7 : Option L2.V, σ = [some v, some (.ref a), some (.ref D), some (.ref wl), some (.ref lt), o5, o6, o7] ∧ Sta K N S H Hl D lt f ((wt.take i).foldl (addH N) (f, [])) H')
      ⟨_, _, _, rfl, sta0⟩ (fun i σ H' _ ⟨_, _, _, _, s⟩ => hid_le.seq ((s.lev.hid tin).seq (hxl.seq hx1))) ?_ ?_
    · rintro i x σ H2 H3 hi ⟨o5, o6, o7, rfl, sta⟩ ⟨rfl, y⟩
      have hg := List.getElem?_eq_getElem hi
      have hh := Dp.mono (hxl.trans (sta.lev.hid tin)) (y _ hg)
      have hk0 : wt[i] ∈ keysF f := M.sub _ (List.getElem_mem hi)
      have hkA : wt[i] ∈ keysF ((wt.take i).foldl (addH N) (f, [])).1 := sta.ok.grow _ hk0
      have hset : IsSet N wt[i] := M.ok.sets _ hk0
      have Lv := sta.live hS
      have mN := sta.facts nD gl
      refine ⟨_, rfl, _, rfl, lt :: D :: S, v, [x], N, [eW wt[i]], _, rfl, Lv, hN.mono mN, g, .cons hh .nil, ⟨wt[i], rfl, rfl⟩, fun rv H4 k4 hv => ?_⟩
      obtain ⟨rl, rfl, hrl⟩ := dp_words hv
      refine ⟨rl, rfl, ⟨_, hid_le.seq hrl⟩, ?_⟩
      refine for_it (walkW (ws := readyL N wt[i])) (fun j σ H' => ∃ o6 o7 : Option L2.V, σ = [some v, some (.ref a), some (.ref D), some (.ref wl), some (.ref lt), some x, o6, o7] ∧ Kp [D, lt] H4 H' ∧ Sta K N S H Hl D lt f (((readyL N wt[i]).take j).foldl (add1 wt[i]) ((wt.take i).foldl (addH N) (f, []))) H')
        ⟨_, _, rfl, .refl, sta.kp k4⟩ (fun j σ H' _ ⟨_, _, _, k5, _⟩ => hid_le.seq ((k5.hid tin).seq hrl)) ?_ ?_
      · rintro j y σ H5 H6 hj ⟨o6, o7, rfl, k5, sta5⟩ ⟨rfl, y2⟩
        have hg2 := List.getElem?_eq_getElem hj
        obtain rfl := y2 _ hg2
        have hlm : (readyL N wt[i])[j] ∈ N.lamps := free_lamp (List.getElem_mem hj)
        generalize (readyL N wt[i])[j] = l at hg2 hlm ⊢
        have hh6 : Dp K (hid (lt :: D :: S) H6) x (eW wt[i]) := Dp.mono (k4.hid0.trans (k5.hid tin)) hh
        refine ⟨_, rfl, _, rfl, lt :: D :: S, [eW wt[i], .str l], _, sta5.live hS, .cons hh6 (.cons (.str l) .nil), ⟨wt[i], l, rfl, by have := hset.len g; omega, rfl⟩, fun tv H7 k7 hv7 => ?_⟩
        obtain ⟨ta, rfl, hta⟩ := dp_words hv7
        have sta7 := sta5.kp k7
        refine ⟨_, rfl, ta, _, rfl, .inl ⟨hid_le.seq hta, fun q nq => ?_⟩⟩
        have sta8 := sta7.kp (kp_new (o := .tup ((flipF wt[i] l).map L2.V.str)) nq)
        refine ⟨_, rfl, D, _, rfl, dget_tup sta8.fd upd_same, _, rfl, ?_⟩
        have hh8 : Dp K (hid (lt :: D :: S) (upd H7 q (.tup ((flipF wt[i] l).map L2.V.str)))) x (eW wt[i]) := Dp.mono (k7.hid0.trans (kp_new nq).hid0) hh6
        have hta8 : SqL K (hid (lt :: D :: S) (upd H7 q (.tup ((flipF wt[i] l).map L2.V.str)))) ta ((flipF wt[i] l).map L2.V.str) := (kp_new nq).hid0.seq hta
        have k8 : Kp [D, lt] H4 (upd H7 q (.tup ((flipF wt[i] l).map L2.V.str))) := k5.trans (k7.trans (kp_new nq)).nil
        generalize (upd H7 q (.tup ((flipF wt[i] l).map L2.V.str))) = H8 at sta8 hh8 hta8 k8 ⊢
        have hkB := (sta5.ok.grow _ hk0)
        have eacc : ((readyL N wt[i]).take (j + 1)).foldl (add1 wt[i]) ((wt.take i).foldl (addH N) (f, [])) = add1 wt[i] (((readyL N wt[i]).take j).foldl (add1 wt[i]) ((wt.take i).foldl (addH N) (f, []))) l := foldl_take hg2
        generalize ((readyL N wt[i]).take j).foldl (add1 wt[i]) ((wt.take i).foldl (addH N) (f, [])) = acc at sta5 sta7 sta8 hkB eacc ⊢
        by_cases hm : flipF wt[i] l ∈ keysF acc.1
        · rw [if_pos hm]
          refine if_no rfl ?_
          refine ⟨_, _, rfl, k8, ?_⟩
          rw [eacc]
          unfold add1
          rw [if_pos hm]
          exact sta8
        · rw [if_neg hm]
          refine if_yes rfl ?_
          obtain ⟨xa, rfl, hxa⟩ := dp_words hh8
          refine ⟨_, rfl, _, rfl, xa, _, rfl, .inl ⟨hid_le.seq hxa, fun q2 nq2 => ?_⟩⟩
          have sta9 := sta8.kp (kp_new (o := .tup (wt[i].map L2.V.str)) nq2)
          have g9 := dget_tup sta9.fd (k := wt[i]) upd_same
          rw [if_pos hkB] at g9
          refine ⟨D, _, rfl, g9, _, _, rfl, rfl, ?_⟩
          have hta9 : SqL K (hid (lt :: D :: S) (upd H8 q2 (.tup (wt[i].map L2.V.str)))) ta ((flipF wt[i] l).map L2.V.str) := (kp_new nq2).hid0.seq hta8
          have k9 : Kp [D, lt] H4 (upd H8 q2 (.tup (wt[i].map L2.V.str))) := k8.trans (kp_new nq2)
          generalize (upd H8 q2 (.tup (wt[i].map L2.V.str))) = H9 at sta9 hta9 k9 ⊢
          refine ⟨_, rfl, _, rfl, ta, _, rfl, .inl ⟨hid_le.seq hta9, fun q3 nq3 => ?_⟩⟩
          have sta10 := sta9.kp (kp_new (o := .tup ((flipF wt[i] l).map L2.V.str)) nq3)
          have few := sta10.ok.ok.few g
          have put := dput_tup (n := lkF acc.1 wt[i] + 1) sta10.fd (k := flipF wt[i] l) upd_same hm (by omega)
          have hta10 : SqL K (hid (lt :: D :: S) (upd H9 q3 (.tup ((flipF wt[i] l).map L2.V.str)))) ta ((flipF wt[i] l).map L2.V.str) := (kp_new nq3).hid0.seq hta9
          have k10 : Kp [D, lt] H4 (upd H9 q3 (.tup ((flipF wt[i] l).map L2.V.str))) := k9.trans (kp_new nq3)
          generalize (upd H9 q3 (.tup ((flipF wt[i] l).map L2.V.str))) = H10 at sta10 hta10 put k10 ⊢
          refine ⟨D, _, rfl, put, ?_⟩
          obtain ⟨ys, hy1, hy2⟩ := sta10.lat
          have hy3 : (upd H10 D (.dT (eF (acc.1 ++ [(flipF wt[i] l, lkF acc.1 wt[i] + 1)])))) lt = some (.lst ys) := by rw [upd_ne sta10.ne.symm]; exact hy1
          have ylen : ys.length ≤ 256 := by
            have e1 := da_len hy2
            have e2 := sta10.ok.len
            omega
          refine ⟨_, rfl, .inl ⟨rfl, _, .inl (.inl hy3)⟩, _, rfl, lt, ys, _, rfl, rfl, hy3, by rw [sizeLine_eq]; omega, ?_⟩
          refine ⟨_, _, rfl, ?_, ?_⟩
          · exact (k10.own (List.mem_cons_self ..)).own (List.mem_cons_of_mem _ (List.mem_cons_self ..))
          · have e3 : ((readyL N wt[i]).take (j + 1)).foldl (add1 wt[i]) ((wt.take i).foldl (addH N) (f, [])) = (acc.1 ++ [(flipF wt[i] l, lkF acc.1 wt[i] + 1)], acc.2 ++ [flipF wt[i] l]) := by
              rw [eacc]
              unfold add1
              rw [if_neg hm]
            exact sta10.put nD gl hy1 hy2 (words_dp hta10) e3 (by rw [eacc]; exact sta10.ok.add1 hkB hlm)
      · rintro σ H5 ⟨o6, o7, rfl, k5, sta5⟩
        rw [List.take_length] at sta5
        refine ⟨_, _, _, rfl, ?_⟩
        rw [foldl_take hg]
        exact sta5
    · rintro σ H2 ⟨o5, o6, o7, rfl, sta⟩
      rw [List.take_length] at sta
      refine ⟨_, rfl, ?_⟩
      obtain ⟨ys, hy1, hy2⟩ := sta.lat
      have hlev : wt.foldl (addH N) (f, []) = levelF N f wt := rfl
      rw [hlev] at sta hy2
      have hlen := sta.ok.len
      have few := sta.ok.ok.few g
      refine ⟨_, ?_, (levelF N f wt).1, (levelF N f wt).2, lt, _, _, _, _, rfl, rfl, sta.bas, sta.fd, ⟨ys, .inl (.inl (hid_at hy1 ?_)), DpAll.mono hid_tail hy2⟩, sta.ok.ok, sta.ok.new, fun g h => M.run g (.step hw h)⟩
      · by_cases he : (levelF N f wt).2 = []
        · rw [if_pos he]
          rw [he, List.length_nil] at hlen
          omega
        · rw [if_neg he]
          have := List.length_pos_iff.mpr he
          omega
      · intro z
        rcases List.mem_cons.mp z with z | z
        · exact sta.ne z.symm
        · exact not_mem_of hS gl z
end
end K41
namespace K41
open PySem PySem.Spec PyProof.Rows L2 PySem.W
/-! ### what the layers hold: all that is reached, from whichever start -/
inductive Reach (N : Net) (s : List Str) : List Str → Prop where
  | here : Reach N s s
  | step {a : List Str} {l : Str} : Reach N s a → l ∈ readyL N a → Reach N s (flipF a l)
theorem key_add1 {here : List Str} {acc : Fd × List (List Str)} {l : Str} : flipF here l ∈ keysF (add1 here acc l).1 := by
  unfold add1
  split
  · assumption
  · show _ ∈ keysF (acc.1 ++ _)
    rw [keys_app]
    exact List.mem_append_right _ (List.mem_singleton.mpr rfl)
theorem of_add1 {here k : List Str} {acc : Fd × List (List Str)} {l : Str} (h : k ∈ keysF (add1 here acc l).1) : k ∈ keysF acc.1 ∨ (k = flipF here l ∧ k ∈ (add1 here acc l).2) := by
  unfold add1 at h ⊢
  split
  · rename_i q
    rw [if_pos q] at h
    exact .inl h
  · rename_i q
    rw [if_neg q] at h
    have h' : k ∈ keysF (acc.1 ++ [(flipF here l, lkF acc.1 here + 1)]) := h
    rw [keys_app] at h'
    rcases List.mem_append.mp h' with h | h
    · exact .inl h
    · have e := List.mem_singleton.mp h
      exact .inr ⟨e, List.mem_append_right _ (List.mem_singleton.mpr e)⟩
theorem late_add1 {here k : List Str} {acc : Fd × List (List Str)} {l : Str} (h : k ∈ acc.2) : k ∈ (add1 here acc l).2 := by
  unfold add1
  split
  · exact h
  · exact List.mem_append_left _ h
theorem fold_add1 {here : List Str} : ∀ {ls : List Str} {acc : Fd × List (List Str)},
    (∀ k ∈ keysF acc.1, k ∈ keysF (ls.foldl (add1 here) acc).1) ∧ (∀ l ∈ ls, flipF here l ∈ keysF (ls.foldl (add1 here) acc).1) ∧ (∀ k ∈ acc.2, k ∈ (ls.foldl (add1 here) acc).2) ∧
      ∀ k ∈ keysF (ls.foldl (add1 here) acc).1, k ∈ keysF acc.1 ∨ ((∃ l ∈ ls, k = flipF here l) ∧ k ∈ (ls.foldl (add1 here) acc).2)
  | [], acc => ⟨fun k h => h, fun l h => absurd h (by simp), fun k h => h, fun k h => .inl h⟩
  | x :: ls, acc => by
    obtain ⟨h1, h2, h3, h4⟩ := fold_add1 (here := here) (ls := ls) (acc := add1 here acc x)
    refine ⟨fun k h => h1 k (add1_mono h), fun l hl => ?_, fun k h => h3 k (late_add1 h), fun k h => ?_⟩
    · rcases List.mem_cons.mp hl with rfl | hl
      · exact h1 _ key_add1
      · exact h2 l hl
    · rcases h4 k h with h | ⟨⟨l, hl, e⟩, h⟩
      · rcases of_add1 h with h | ⟨e, h⟩
        · exact .inl h
        · exact .inr ⟨⟨x, List.mem_cons_self .., e⟩, h3 k h⟩
      · exact .inr ⟨⟨l, List.mem_cons_of_mem _ hl, e⟩, h⟩
theorem fold_addH {N : Net} : ∀ {w : List (List Str)} {acc : Fd × List (List Str)},
    (∀ k ∈ keysF acc.1, k ∈ keysF (w.foldl (addH N) acc).1) ∧ (∀ h ∈ w, ∀ l ∈ readyL N h, flipF h l ∈ keysF (w.foldl (addH N) acc).1) ∧ (∀ k ∈ acc.2, k ∈ (w.foldl (addH N) acc).2) ∧
      ∀ k ∈ keysF (w.foldl (addH N) acc).1, k ∈ keysF acc.1 ∨ ((∃ h ∈ w, ∃ l ∈ readyL N h, k = flipF h l) ∧ k ∈ (w.foldl (addH N) acc).2)
  | [], acc => ⟨fun k h => h, fun l h => absurd h (by simp), fun k h => h, fun k h => .inl h⟩
  | x :: w, acc => by
    obtain ⟨h1, h2, h3, h4⟩ := fold_addH (N := N) (w := w) (acc := addH N acc x)
    obtain ⟨g1, g2, g3, g4⟩ := fold_add1 (here := x) (ls := readyL N x) (acc := acc)
    refine ⟨fun k h => h1 k (g1 k h), fun h hh l hl => ?_, fun k h => h3 k (g3 k h), fun k h => ?_⟩
    · rcases List.mem_cons.mp hh with rfl | hh
      · exact h1 _ (g2 l hl)
      · exact h2 h hh l hl
    · rcases h4 k h with h | ⟨⟨y, hy, l, hl, e⟩, h⟩
      · rcases g4 k h with h | ⟨⟨l, hl, e⟩, h⟩
        · exact .inl h
        · exact .inr ⟨⟨x, List.mem_cons_self .., l, hl, e⟩, h3 k h⟩
      · exact .inr ⟨⟨y, List.mem_cons_of_mem _ hy, l, hl, e⟩, h⟩
theorem Runs.all {N : Net} {s : List Str} {f g : Fd} {w : List (List Str)} (r : Runs N f w g) : (∀ k ∈ w, k ∈ keysF f) → (∀ k ∈ keysF f, Reach N s k) → (∀ k ∈ keysF f, k ∈ w ∨ ∀ l ∈ readyL N k, flipF k l ∈ keysF f) →
    (∀ k ∈ keysF f, k ∈ keysF g) ∧ (∀ k ∈ keysF g, Reach N s k) ∧ ∀ k ∈ keysF g, ∀ l ∈ readyL N k, flipF k l ∈ keysF g := by
  induction r with
  | done f => exact fun _ h2 h3 => ⟨fun k h => h, h2, fun k hk l hl => (h3 k hk).elim (fun h => absurd h (by simp)) fun h => h l hl⟩
  | @step f g w hw r ih =>
    intro h1 h2 h3
    obtain ⟨a1, a2, a3, a4⟩ := fold_addH (N := N) (w := w) (acc := (f, []))
    have b4 : ∀ k ∈ keysF (levelF N f w).1, k ∈ keysF f ∨ ((∃ h ∈ w, ∃ l ∈ readyL N h, k = flipF h l) ∧ k ∈ (levelF N f w).2) := a4
    have b1 : ∀ k ∈ keysF f, k ∈ keysF (levelF N f w).1 := a1
    have b2 : ∀ h ∈ w, ∀ l ∈ readyL N h, flipF h l ∈ keysF (levelF N f w).1 := a2
    have late : ∀ {acc : Fd × List (List Str)}, (∀ k ∈ acc.2, k ∈ keysF acc.1) → ∀ {w : List (List Str)}, ∀ k ∈ (w.foldl (addH N) acc).2, k ∈ keysF (w.foldl (addH N) acc).1 := by
      have one : ∀ {here : List Str} {ls : List Str} {acc : Fd × List (List Str)}, (∀ k ∈ acc.2, k ∈ keysF acc.1) → ∀ k ∈ (ls.foldl (add1 here) acc).2, k ∈ keysF (ls.foldl (add1 here) acc).1 := by
        intro here ls
        induction ls with
        | nil => exact fun h k hk => h k hk
        | cons x ls ih =>
          intro acc h
          refine ih fun k hk => ?_
          unfold add1 at hk ⊢
          split
          · rename_i q
            rw [if_pos q] at hk
            exact h k hk
          · rename_i q
            rw [if_neg q] at hk
            show k ∈ keysF (acc.1 ++ _)
            rw [keys_app]
            rcases List.mem_append.mp hk with hk | hk
            · exact List.mem_append_left _ (h k hk)
            · exact List.mem_append_right _ hk
      intro acc h w
      induction w generalizing acc with
      | nil => exact fun k hk => h k hk
      | cons x w ih => exact ih (acc := addH N acc x) (one h)
    have p2 : ∀ k ∈ keysF (levelF N f w).1, Reach N s k := fun k hk => by
      rcases b4 k hk with h | ⟨⟨h, hh, l, hl, rfl⟩, _⟩
      · exact h2 k h
      · exact .step (h2 h (h1 h hh)) hl
    have p3 : ∀ k ∈ keysF (levelF N f w).1, k ∈ (levelF N f w).2 ∨ ∀ l ∈ readyL N k, flipF k l ∈ keysF (levelF N f w).1 := fun k hk => by
      rcases b4 k hk with h | ⟨_, h⟩
      · rcases h3 k h with q | q
        · exact .inr fun l hl => b2 k q l hl
        · exact .inr fun l hl => b1 _ (q l hl)
      · exact .inl h
    obtain ⟨c1, c2, c3⟩ := ih (late (acc := (f, [])) (fun k hk => absurd hk (by simp)) (w := w)) p2 p3
    exact ⟨fun k hk => c1 k (b1 k hk), c2, c3⟩
theorem Layers.start {N : Net} {s : List Str} {g : Fd} (r : Layers N s g) : s ∈ keysF g := by
  obtain ⟨h, _⟩ := Runs.all (s := s) r (fun k hk => hk) (fun k hk => by rw [List.mem_singleton.mp hk]; exact .here) (fun k hk => .inl hk)
  exact h s (List.mem_singleton.mpr rfl)
theorem Layers.mem {N : Net} {s : List Str} {g : Fd} (r : Layers N s g) (k : List Str) : k ∈ keysF g ↔ Reach N s k := by
  obtain ⟨h1, h2, h3⟩ := Runs.all (s := s) r (fun k hk => hk) (fun k hk => by rw [List.mem_singleton.mp hk]; exact .here) (fun k hk => .inl hk)
  refine ⟨h2 k, fun q => ?_⟩
  induction q with
  | here => exact h1 s (List.mem_singleton.mpr rfl)
  | step _ hl ih => exact h3 _ ih _ hl
/-! a deed can be taken back -/
theorem near_ne {N : Net} (g : Good N) {l o : Str} (h : o ∈ nearF N.ties l) : o ≠ l := by
  have h' : o ∈ nearU N.ties l := srt_mem.mp h
  unfold nearU at h'
  obtain ⟨t, ht, hm⟩ := List.mem_flatMap.mp h'
  have hlt := (g.tok t ht).1
  rcases List.mem_append.mp hm with hm | hm
  · by_cases e : t.1 = l
    · rw [if_pos e] at hm
      rw [List.mem_singleton.mp hm, ← e]
      exact hlt.ne.symm
    · rw [if_neg e] at hm
      exact absurd hm (by simp)
  · by_cases e : t.2 = l
    · rw [if_pos e] at hm
      rw [List.mem_singleton.mp hm, ← e]
      exact hlt.ne
    · rw [if_neg e] at hm
      exact absurd hm (by simp)
theorem lit_flip {N : Net} (g : Good N) {s : List Str} {l : Str} : litF N (flipF s l) l = litF N s l := by
  unfold litF
  refine List.filter_congr fun o ho => ?_
  have h : (o ∈ flipF s l) ↔ o ∈ s := by rw [mem_flip, if_neg (near_ne g ho)]
  by_cases hs : o ∈ s
  · rw [decide_eq_true hs, decide_eq_true (h.mpr hs)]
  · rw [decide_eq_false hs, decide_eq_false fun z => hs (h.mp z)]
theorem ready_flip {N : Net} (g : Good N) {s : List Str} {l : Str} (h : l ∈ readyL N s) : l ∈ readyL N (flipF s l) := by
  obtain ⟨h1, h2⟩ := List.mem_filter.mp h
  refine List.mem_filter.mpr ⟨h1, ?_⟩
  unfold readyF at h2 ⊢
  rw [lit_flip g]
  exact h2
theorem Reach.set {N : Net} {s k : List Str} (h : IsSet N s) (r : Reach N s k) : IsSet N k := by
  induction r with
  | here => exact h
  | step _ hl ih => exact flip_set ih (free_lamp hl)
theorem Reach.trans {N : Net} {a b c : List Str} (h : Reach N a b) (k : Reach N b c) : Reach N a c := by
  induction k with
  | here => exact h
  | step _ hl ih => exact .step ih hl
theorem Reach.symm {N : Net} (g : Good N) {s k : List Str} (h : IsSet N s) (r : Reach N s k) : Reach N k s := by
  induction r with
  | here => exact .here
  | @step a l r hl ih =>
    have ha := r.set h
    have q : Reach N (flipF a l) (flipF (flipF a l) l) := .step .here (ready_flip g hl)
    rw [flip_flip ha (free_lamp hl)] at q
    exact q.trans ih
theorem Layers.same {N : Net} (g : Good N) {s k : List Str} {a b : Fd} (h : IsSet N s) (r : Layers N s a) (hk : k ∈ keysF a) (q : Layers N k b) (x : List Str) : x ∈ keysF a ↔ x ∈ keysF b := by
  have hr := (r.mem k).mp hk
  rw [r.mem x, q.mem x]
  exact ⟨fun z => (hr.symm g h).trans z, fun z => hr.trans z⟩
theorem class_same {N : Net} (g : Good N) {s k : List Str} {a b : Fd} (h : IsSet N s) (r : Layers N s a) (oa : KeysOk N a) (hk : k ∈ keysF a) (q : Layers N k b) (ob : KeysOk N b) : (keysF a).Perm (keysF b) :=
  (List.perm_ext_iff_of_nodup oa.nd ob.nd).mpr (r.same g h hk q)
/-! the greatest number -/
def mostL : List Nat → Nat
  | [] => 0
  | x :: xs => max x (mostL xs)
theorem le_most : ∀ {l : List Nat} {x : Nat}, x ∈ l → x ≤ mostL l
  | y :: l, x, h => by
    show x ≤ max y (mostL l)
    rcases List.mem_cons.mp h with rfl | h
    · exact Nat.le_max_left ..
    · exact Nat.le_trans (le_most h) (Nat.le_max_right ..)
theorem most_mem : ∀ {l : List Nat}, l ≠ [] → mostL l ∈ l
  | [x], _ => by
    show max x 0 ∈ [x]
    rw [Nat.max_eq_left (Nat.zero_le _)]
    exact List.mem_singleton.mpr rfl
  | x :: y :: l, _ => by
    have ih := most_mem (l := y :: l) (by simp)
    show max x (mostL (y :: l)) ∈ x :: y :: l
    by_cases h : mostL (y :: l) ≤ x
    · rw [Nat.max_eq_left h]
      exact List.mem_cons_self ..
    · rw [Nat.max_eq_right (by omega)]
      exact List.mem_cons_of_mem _ ih
theorem most_is {l : List Nat} {m : Nat} (h : m ∈ l) (k : ∀ x ∈ l, x ≤ m) : m = mostL l :=
  Nat.le_antisymm (le_most h) (k _ (most_mem (fun e => by rw [e] at h; simp at h)))
def numsF (f : Fd) : List Nat := f.map (·.2)
def mostF (f : Fd) : Nat := mostL (numsF f)
theorem keys_ne {f : Fd} {k : List Str} (h : k ∈ keysF f) : numsF f ≠ [] := fun e => by
  have : f = [] := List.map_eq_nil_iff.mp e
  rw [this] at h
  simp [keysF] at h
theorem lk_mem : ∀ {f : Fd} {k : List Str}, k ∈ keysF f → (k, lkF f k) ∈ f
  | p :: f, k, h => by
    by_cases e : p.1 = k
    · have q : lkF (p :: f) k = p.2 := by
        unfold lkF
        rw [List.find?_cons, decide_eq_true e]
        rfl
      rw [q, ← e]
      exact List.mem_cons_self ..
    · have q : lkF (p :: f) k = lkF f k := by
        unfold lkF
        rw [List.find?_cons, decide_eq_false e]
      rw [q]
      have h' : k ∈ p.1 :: keysF f := h
      exact List.mem_cons_of_mem _ (lk_mem ((List.mem_cons.mp h').resolve_left fun z => e z.symm))
theorem lk_le {f : Fd} {k : List Str} (h : k ∈ keysF f) : lkF f k ≤ mostF f := le_most (List.mem_map.mpr ⟨_, lk_mem h, rfl⟩)
theorem lk_of {N : Net} {f : Fd} (o : KeysOk N f) {k : List Str} {n : Nat} (h : (k, n) ∈ f) : lkF f k = n := by
  have hk : k ∈ keysF f := List.mem_map.mpr ⟨_, h, rfl⟩
  have q := lk_mem hk
  obtain ⟨i, hi, ei⟩ := List.mem_iff_getElem.mp h
  obtain ⟨j, hj, ej⟩ := List.mem_iff_getElem.mp q
  have e : i = j := by
    refine (List.getElem_inj o.nd (h₀ := by unfold keysF; rw [List.length_map]; exact hi) (h₁ := by unfold keysF; rw [List.length_map]; exact hj)).mp ?_
    unfold keysF
    rw [List.getElem_map, List.getElem_map, ei, ej]
  subst e
  rw [ei] at ej
  exact (Prod.mk.inj ej).2.symm
theorem most_key {N : Net} {f : Fd} (o : KeysOk N f) {k : List Str} (h : k ∈ keysF f) : ∃ k ∈ keysF f, lkF f k = mostF f := by
  obtain ⟨p, hp, e⟩ := List.mem_map.mp (most_mem (keys_ne h))
  exact ⟨p.1, List.mem_map.mpr ⟨p, hp, rfl⟩, (lk_of o hp).trans e⟩
/-! numbers counted -/
def deedsF (f : Fd) : List Int := (List.range (mostF f + 1)).map fun n => ((numsF f).count n : Int)
theorem sum_one (x m : Nat) (h : x < m) : ((List.range m).map fun n => if x = n then (1 : Nat) else 0).sum = 1 := by
  induction m with
  | zero => omega
  | succ m ih =>
    rw [List.range_succ, List.map_append, List.sum_append, List.map_singleton, List.sum_singleton]
    by_cases e : x = m
    · subst e
      have z : ((List.range x).map fun n => if x = n then (1 : Nat) else 0) = (List.range x).map fun _ => 0 := List.map_congr_left fun n hn => by
        have := List.mem_range.mp hn
        rw [if_neg (by omega)]
      rw [z, if_pos rfl]
      have z2 : ∀ l : List Nat, (l.map fun _ => 0).sum = 0 := fun l => by induction l <;> simp_all
      rw [z2]
    · rw [ih (by omega), if_neg e]
theorem sum_add (l : List Nat) (f g : Nat → Nat) : (l.map fun n => f n + g n).sum = (l.map f).sum + (l.map g).sum := by
  induction l with
  | nil => rfl
  | cons x l ih =>
    simp only [List.map_cons, List.sum_cons, ih]
    omega
theorem sum_counts : ∀ (l : List Nat) (m : Nat), (∀ x ∈ l, x < m) → ((List.range m).map fun n => l.count n).sum = l.length
  | [], m, _ => by
    have z2 : ∀ l : List Nat, (l.map fun n => ([] : List Nat).count n).sum = 0 := fun l => by induction l <;> simp_all
    exact z2 _
  | x :: l, m, h => by
    have e : ((List.range m).map fun n => (x :: l).count n) = (List.range m).map fun n => l.count n + if x = n then 1 else 0 := List.map_congr_left fun n _ => by
      rw [List.count_cons]
      by_cases e : x = n
      · simp [e]
      · simp [e]
    rw [e, sum_add, sum_counts l m (fun y hy => h y (List.mem_cons_of_mem _ hy)), sum_one x m (h x (List.mem_cons_self ..)), List.length_cons]
theorem deeds_sum (f : Fd) : (deedsF f).sum = (f.length : Int) := by
  have h := sum_counts (numsF f) (mostF f + 1) fun x hx => Nat.lt_succ_of_le (le_most hx)
  have e : ∀ l : List Nat, ∀ c : Nat → Nat, (l.map fun n => (c n : Int)).sum = ((l.map c).sum : Nat) := fun l c => by
    induction l with
    | nil => rfl
    | cons x l ih => simp only [List.map_cons, List.sum_cons, ih, Int.natCast_add]
  unfold deedsF
  rw [e, h]
  unfold numsF
  rw [List.length_map]
/-! the width -/
def WidthIs (N : Net) (s : List Str) (m : Nat) : Prop := ∃ g, Layers N s g ∧ (∃ k ∈ keysF g, ∃ h, Layers N k h ∧ mostF h = m) ∧ ∀ k ∈ keysF g, ∀ h, Layers N k h → mostF h ≤ m
theorem width_same {N : Net} (g : Good N) {s k : List Str} {a : Fd} {m n : Nat} (h : IsSet N s) (r : Layers N s a) (hk : k ∈ keysF a) (w1 : WidthIs N s m) (w2 : WidthIs N k n) : m = n := by
  obtain ⟨a', ra, ⟨x, hx, fx, lx, ex⟩, ux⟩ := w1
  have ea := Runs.det r ra
  subst ea
  obtain ⟨b, rb, ⟨y, hy, fy, ly, ey⟩, uy⟩ := w2
  have sm := r.same g h hk rb
  refine Nat.le_antisymm ?_ ?_
  · rw [← ex]
    exact uy x ((sm x).mp hx) fx lx
  · rw [← ey]
    exact ux y ((sm y).mpr hy) fy ly
theorem width_det {N : Net} {s : List Str} {m n : Nat} (w1 : WidthIs N s m) (w2 : WidthIs N s n) : m = n := by
  obtain ⟨a, ra, ⟨x, hx, fx, lx, ex⟩, ux⟩ := w1
  obtain ⟨b, rb, ⟨y, hy, fy, ly, ey⟩, uy⟩ := w2
  have e := Runs.det ra rb
  subst e
  refine Nat.le_antisymm ?_ ?_
  · rw [← ex]
    exact uy x hx fx lx
  · rw [← ey]
    exact ux y hy fy ly
end K41
namespace K41
open PySem PySem.Spec PyProof.Rows L2 PySem.W
/-! ### the comprehension's own list is told as a list -/
section
variable {J : It} {n : Nat} {G : Hp → Prop} {Y : Nat → Hp → V → Hp → Prop} {K : PySem.W.Frag}
theorem lcR2 (w : Walk J n G Y) {g : TG} {tt : TT} {te : TE} {vs : List Nat} {σ : L2.St} {H1 : Hp} {D : Addr} {Qd : Hp → Prop} {S T : List Addr} (Z : Nat → Hp → Prop) (R : Nat → List PyData → Prop)
    (hD : H1 D = none) (hT : ∀ b ∈ T, b ∈ S) (hS : Live S H1) (hn : n ≤ 100000) (hG : ∀ H, Kp T H1 H → G H) (h0 : R 0 []) (hZ0 : Z 0 H1) (hZ : ∀ i H o, Z i H → Z i (upd H D o))
    (hs : ∀ i x H H' ds (Yes : VK) (No : Hp → Prop), i < n → Kp T H1 H → Live (D :: S) H → (∃ acc, H D = some (.lst acc)) → Z i H → R i ds → Y i H x H' → (∀ y H4 d, Kp T H H4 → Z (i + 1) H4 → Dp K (hid (D :: S) H4) y d → R (i + 1) (ds ++ [d]) → Yes y H4) → (∀ H3, Kp T H H3 → Z (i + 1) H3 → R (i + 1) ds → No H3) →
      g x (wipe σ vs) H' fun σ2 H2 => wipe σ2 vs = wipe σ vs ∧ tt σ2 H2 fun b H3 => if b = true then te σ2 H3 Yes else No H3)
    (hd : ∀ H ys ds, Kp T H1 H → Live S H → Z n H → R n ds → H D = some (.lst ys) → ys.length ≤ n → DpAll K (hid (D :: S) H) ys ds → Dp K (hid S H) (.ref D) (.list ds) → Qd H) :
    ∃ W : Nat → Nat → Hp → Prop, (∃ m, W 0 m (upd H1 D (.lst []))) ∧ ∀ i m H, W i m H →
      (J.stop i H ∧ Qd H) ∨ (J.go i H ∧ ∃ Nx : Hp → Prop, (∀ H', Nx H' → ∃ m', m' < m ∧ W (i + 1) m' H') ∧ ∀ x H', J.yld i H x H' → g x (wipe σ vs) H' fun σ2 H2 => wipe σ2 vs = wipe σ vs ∧ tt σ2 H2 fun b H3 =>
        if b = true then te σ2 H3 fun y H4 => ∃ acc, H4 D = some (.lst acc) ∧ acc.length < sizeLine ∧ Nx (upd H4 D (.lst (acc ++ [y]))) else Nx H3) := by
  have hDS : D ∉ S := not_mem_of hS hD
  have hDT : D ∉ T := fun z => hDS (hT D z)
  refine lc_it w (fun i H => ∃ acc ds, Kp T H1 H ∧ Z i H ∧ R i ds ∧ H D = some (.lst acc) ∧ acc.length ≤ i ∧ DpAll K (hid (D :: S) H) acc ds) ⟨[], [], kp_new hD, hZ _ _ _ hZ0, h0, upd_same, Nat.le_refl _, .nil⟩ (fun i H _ ⟨_, _, k, _⟩ => hG H k) ?_ ?_
  · rintro i x H H' hi ⟨acc, ds, k, z, r, hl, hle, da⟩ y
    have hL : Live (D :: S) H := (k.live hS).cons hl
    refine hs i x H H' ds _ _ hi k hL ⟨acc, hl⟩ z r y (fun y H4 d k2 z2 hd2 r2 => ?_) (fun H3 k2 z2 r2 => ?_)
    · have e : H4 D = some (.lst acc) := k2.at hDT hl
      have da4 : DpAll K (hid (D :: S) H4) acc ds := DpAll.mono (k2.hid fun b hb => List.mem_cons_of_mem _ (hT b hb)) da
      refine ⟨acc, e, by rw [sizeLine_eq]; omega, acc ++ [y], ds ++ [d], (k.trans k2).put hD, hZ _ _ _ z2, r2, upd_same, by rw [List.length_append, List.length_singleton]; omega, ?_⟩
      rw [hid_in (List.mem_cons_self ..)]
      exact DpAll.append da4 (.cons hd2 .nil)
    · exact ⟨acc, ds, k.trans k2, z2, r2, k2.at hDT hl, Nat.le_succ_of_le hle, DpAll.mono (k2.hid fun b hb => List.mem_cons_of_mem _ (hT b hb)) da⟩
  · rintro H ⟨acc, ds, k, z, r, hl, hle, da⟩
    exact hd H acc ds k (k.live hS) z r hl hle da (.lst (.inl (.inl (hid_at hl hDS))) (DpAll.mono hid_tail da))
theorem lcF2 {α : Type} {items : List α} (w : Walk J items.length G Y) {g : TG} {tt : TT} {te : TE} {vs : List Nat} {σ : L2.St} {H1 : Hp} {D : Addr} {Qd : Hp → Prop} {S T : List Addr} (Z : Nat → Hp → Prop) (q : α → Bool) (f : α → PyData)
    (hD : H1 D = none) (hT : ∀ b ∈ T, b ∈ S) (hS : Live S H1) (hn : items.length ≤ 100000) (hG : ∀ H, Kp T H1 H → G H) (hZ0 : Z 0 H1) (hZ : ∀ i H o, Z i H → Z i (upd H D o))
    (hs : ∀ i a x H H' (Yes : VK) (No : Hp → Prop), items[i]? = some a → Kp T H1 H → Live (D :: S) H → (∃ acc, H D = some (.lst acc)) → Z i H → Y i H x H' → (∀ y H4, Kp T H H4 → Z (i + 1) H4 → q a = true → Dp K (hid (D :: S) H4) y (f a) → Yes y H4) → (∀ H3, Kp T H H3 → Z (i + 1) H3 → q a = false → No H3) →
      g x (wipe σ vs) H' fun σ2 H2 => wipe σ2 vs = wipe σ vs ∧ tt σ2 H2 fun b H3 => if b = true then te σ2 H3 Yes else No H3)
    (hd : ∀ H ys, Kp T H1 H → Live S H → Z items.length H → H D = some (.lst ys) → ys.length ≤ items.length → DpAll K (hid (D :: S) H) ys ((items.filter q).map f) → Dp K (hid S H) (.ref D) (.list ((items.filter q).map f)) → Qd H) :
    ∃ W : Nat → Nat → Hp → Prop, (∃ m, W 0 m (upd H1 D (.lst []))) ∧ ∀ i m H, W i m H →
      (J.stop i H ∧ Qd H) ∨ (J.go i H ∧ ∃ Nx : Hp → Prop, (∀ H', Nx H' → ∃ m', m' < m ∧ W (i + 1) m' H') ∧ ∀ x H', J.yld i H x H' → g x (wipe σ vs) H' fun σ2 H2 => wipe σ2 vs = wipe σ vs ∧ tt σ2 H2 fun b H3 =>
        if b = true then te σ2 H3 fun y H4 => ∃ acc, H4 D = some (.lst acc) ∧ acc.length < sizeLine ∧ Nx (upd H4 D (.lst (acc ++ [y]))) else Nx H3) := by
  refine lcR2 (K := K) w Z (fun i ds => ds = ((items.take i).filter q).map f) hD hT hS hn hG rfl hZ0 hZ ?_ ?_
  · rintro i x H H' ds Yes No hi k hL hD2 z rfl y yes no
    have hg : items[i]? = some items[i] := List.getElem?_eq_getElem hi
    refine hs i items[i] x H H' Yes No hg k hL hD2 z y (fun y H4 k2 z2 hq hd2 => yes y H4 _ k2 z2 hd2 ?_) (fun H3 k2 z2 hq => no H3 k2 z2 ?_)
    · rw [List.take_succ, hg, Option.toList, List.filter_append, List.map_append, List.filter_cons, if_pos hq]
      rfl
    · rw [List.take_succ, hg, Option.toList, List.filter_append, List.map_append, List.filter_cons, if_neg (by rw [hq]; decide)]
      simp
  · rintro H ys ds k hL z rfl hl hle da dp
    rw [List.take_length] at da dp
    exact hd H ys k hL z hl hle da dp
/-- with a test, nothing drawn -/
theorem lcT2 {α : Type} {items : List α} (w : Walk J items.length G Y) {g : TG} {tt : TT} {te : TE} {vs : List Nat} {σ : L2.St} {H1 : Hp} {D : Addr} {Qd : Hp → Prop} {S : List Addr} (q : α → Bool) (f : α → PyData)
    (hD : H1 D = none) (hS : Live S H1) (hn : items.length ≤ 100000) (hG : ∀ H, Kp [] H1 H → G H)
    (hs : ∀ i a x H H' (Yes : VK) (No : Hp → Prop), items[i]? = some a → Kp [] H1 H → Live (D :: S) H → (∃ acc, H D = some (.lst acc)) → Y i H x H' → (∀ y H4, Kp [] H H4 → q a = true → Dp K (hid (D :: S) H4) y (f a) → Yes y H4) → (∀ H3, Kp [] H H3 → q a = false → No H3) →
      g x (wipe σ vs) H' fun σ2 H2 => wipe σ2 vs = wipe σ vs ∧ tt σ2 H2 fun b H3 => if b = true then te σ2 H3 Yes else No H3)
    (hd : ∀ H ys, Kp [] H1 H → Live S H → H D = some (.lst ys) → ys.length ≤ items.length → DpAll K (hid (D :: S) H) ys ((items.filter q).map f) → Dp K (hid S H) (.ref D) (.list ((items.filter q).map f)) → Qd H) :
    ∃ W : Nat → Nat → Hp → Prop, (∃ m, W 0 m (upd H1 D (.lst []))) ∧ ∀ i m H, W i m H →
      (J.stop i H ∧ Qd H) ∨ (J.go i H ∧ ∃ Nx : Hp → Prop, (∀ H', Nx H' → ∃ m', m' < m ∧ W (i + 1) m' H') ∧ ∀ x H', J.yld i H x H' → g x (wipe σ vs) H' fun σ2 H2 => wipe σ2 vs = wipe σ vs ∧ tt σ2 H2 fun b H3 =>
        if b = true then te σ2 H3 fun y H4 => ∃ acc, H4 D = some (.lst acc) ∧ acc.length < sizeLine ∧ Nx (upd H4 D (.lst (acc ++ [y]))) else Nx H3) :=
  lcF2 (K := K) (T := []) w (fun _ _ => True) q f hD (by simp) hS hn hG trivial (fun _ _ _ _ => trivial) (fun i a x H H' Yes No hi kp hL hD2 _ y yes no => hs i a x H H' Yes No hi kp hL hD2 y (fun y H4 k h d => yes y H4 k trivial h d) (fun H3 k h => no H3 k trivial h)) (fun H ys kp hL _ hl hle da dp => hd H ys kp hL hl hle da dp)
end
end K41
namespace K41
open PySem PySem.Spec PyProof.Rows L2 PySem.W
/-! ### the kind of data, as isinstance tells it -/
def isS (T t : String) : Bool := T == t || (T == "int" && t == "bool")
theorem kit_all : ∀ t ∈ ["NoneType", "bool", "int", "str", "list", "tuple"], ∀ T ∈ ["list", "tuple", "dict", "int", "bool", "str"], kitB t T = some (isS T t) := by decide +kernel
theorem isi_dp {K : PySem.W.Frag} {H : Hp} {v : V} {d : PyData} (h : Dp K H v d) {T : String} (hT : T ∈ ["list", "tuple", "dict", "int", "bool", "str"]) : ∃ t, TyX K H v t ∧ PySem.W.kitOne K t (.type T) = some (isS T (tyN d)) := by
  refine ⟨_, tyx h, kit_ty (kit_all _ ?_ T hT)⟩
  cases h <;> simp [tyN]
theorem walkF {d : Addr} {o : Obj} {f : Fd} : Walk (Itkt d o (eF f)) (keysF f).length (fun H => H d = some (.frz o (.dT (eF f)))) (fun i H x H' => H' = H ∧ ∀ k, (keysF f)[i]? = some k → ∃ q, x = .ref q ∧ H q = some (.tup (k.map V.str))) := by
  have e : (keysF f).length = (eF f).length := by rw [eF_len]; exact List.length_map ..
  rw [e]
  refine walk_keysT.mono (fun _ h => h) fun i H x H' _ _ ⟨e1, k, v, q, h1, h2, h3⟩ => ⟨e1, fun k' hk' => ⟨q, h2, ?_⟩⟩
  unfold eF at h1
  unfold keysF at hk'
  rw [List.getElem?_map] at h1 hk'
  obtain ⟨p, hp, e2⟩ := Option.map_eq_some_iff.mp h1
  rw [hp] at hk'
  have e3 : p.1 = k' := Option.some.inj hk'
  have e4 : p.1.map Sum.inr = k := (Prod.mk.inj e2).1
  rw [h3, ← e4, kV_inr, e3]
theorem vals_eF (f : Fd) : (eF f).map (·.2) = ((numsF f).map fun n : Nat => (n : Int)).map V.int := by
  unfold eF numsF
  rw [List.map_map, List.map_map, List.map_map]
  rfl
theorem count_cast : ∀ (l : List Nat) (n : Nat), (l.map fun n : Nat => (n : Int)).count (n : Int) = l.count n
  | [], n => rfl
  | x :: l, n => by
    rw [List.map_cons, List.count_cons, List.count_cons, count_cast l n]
    by_cases e : x = n
    · simp [e]
    · have : ¬ ((x : Int) = (n : Int)) := by omega
      simp [e, this]
theorem most_cast {l : List Nat} (hl : l ≠ []) {m : Int} (h : m ∈ l.map fun n : Nat => (n : Int)) (k : ∀ j ∈ l.map (fun n : Nat => (n : Int)), j ≤ m) : m = (mostL l : Int) := by
  obtain ⟨n, hn, rfl⟩ := List.mem_map.mp h
  rw [most_is hn fun x hx => by
    have := k _ (List.mem_map.mpr ⟨x, hx, rfl⟩)
    omega]
theorem mostF_le {N : Net} {f : Fd} (g : Good N) (o : KeysOk N f) : mostF f < 1000 := by
  have h := o.few g
  by_cases e : numsF f = []
  · unfold mostF
    rw [e]
    decide
  · obtain ⟨p, hp, ep⟩ := List.mem_map.mp (most_mem e)
    have := o.small p hp
    have ep' : p.2 = mostF f := ep
    omega
noncomputable def layersOf (N : Net) (k : List Str) : Fd := Classical.epsilon fun g => Layers N k g
theorem layersOf_eq {N : Net} {k : List Str} {g : Fd} (h : Layers N k g) : layersOf N k = g := (Layers.det (Classical.epsilon_spec (p := fun g => Layers N k g) ⟨g, h⟩) h)
/-- is the value one of the last layer -/
def farB (g : Fd) (d : PyData) : Bool := (keysF g).any fun k => PyData.eqv (eW k) d && decide (lkF g k = mostF g)
theorem farB_eW {g : Fd} {k : List Str} (h : k ∈ keysF g) : farB g (eW k) = decide (lkF g k = mostF g) := by
  unfold farB
  rw [Bool.eq_iff_iff, List.any_eq_true, decide_eq_true_eq]
  constructor
  · rintro ⟨x, _, e⟩
    rw [Bool.and_eq_true, decide_eq_true_eq] at e
    rw [eW_inj (eqv_words.mp e.1)]
    exact e.2
  · intro e
    exact ⟨k, h, by rw [Bool.and_eq_true, decide_eq_true_eq]; exact ⟨eqv_words.mpr rfl, e⟩⟩
theorem farB_no {g : Fd} {d : PyData} (h : ∀ k ∈ keysF g, d ≠ eW k) : farB g d = false := by
  cases e : farB g d with
  | false => rfl
  | true =>
    obtain ⟨x, hx, q⟩ := List.any_eq_true.mp e
    rw [Bool.and_eq_true] at q
    exact absurd (eqv_words.mp q.1) (h x hx)
section
variable {P : Program} {w : World} {K : PySem.W.Frag} {mg : Str → Option Value} {base : Heap} {C : Addr}
def spClass (K : PySem.W.Frag) (C : Addr) : Sp := fun vs H Q _ => ∃ (S : List Addr) (v u : L2.V) (N : Net) (s : List Str), vs = [v, u] ∧ Live S H ∧ NetV K C (hid S H) v N ∧ Good N ∧ Dp K (hid S H) u (eW s) ∧ IsSet N s ∧
  ∀ a H' ys g, Layers N s g → KeysOk N g → Kp [] H H' → H a = none → H' a = some (.lst ys) → DpAll K (hid S H') ys ((srt eW (keysF g)).map eW) → (∀ y ∈ ys, ∃ q xs, y = .ref q ∧ H q = none ∧ H' q = some (.lst xs) ∧ xs.length ≤ 1000) → Q (.ref a) H'
theorem c_class_of (Y : Env K mg C) : Def P w K mg base (Str.ofString "class_of") 7 ["net", "setting"] (spClass K C) := by
  refine def_mk Y.t_class_of sc_class_of bb_class_of (fun vs H Q E h => ?_) (fun f cdv A outer s H vs Q E hr h => ?_)
  · obtain ⟨S, v, u, N, s, rfl, _⟩ := h
    rfl
  · obtain ⟨S, v, u, N, st, rfl, hS, hN, g, h1, hs, k⟩ := h
    refine ⟨_, (pss_cons (ps_expr (pe_def (c_check_set Y) (hr.mono (by decide)) (pa_cons (pv 0) (pa_cons (pv 1) pa_nil))))
    (pss_one (ps_ret (pe_callB (K_sort (K := K) rfl (hu100 hr)) (by rfl) Y.n_sorted (by decide +kernel) (pa_cons (pe_lc (own := [("here", 2)]) rfl sc_class_of.nd (pi_keys (pe_frz (pe_def (c_layers_from Y) (hr.mono (by decide)) (pa_cons (pv 0) (pa_cons (pv 1) pa_nil))))) (blkOk_by (own := [("here", 2)]) (N := ["net", "setting", "here"]) (sc := defScope s_class_of) (by decide +kernel)) (fun _ _ _ _ _ => (pg_name (i := 2) sc_class_of.nd rfl (Or.inl rfl))) (fun _ _ _ _ _ => pts_nil) (fun _ _ _ _ _ => (pe_callTy (K_list (K := K) rfl) (by rfl) Y.n_list (by decide +kernel) (pa_cons (pv 2) pa_nil)))) pa_nil))))), ?_⟩
    refine ⟨_, rfl, _, rfl, S, v, [u], N, [eW st], _, rfl, hS, hN, g, .cons h1 .nil, ⟨st, rfl, hs, rfl⟩, fun v1 H1 k1 hv => ?_⟩
    refine ⟨_, rfl, _, rfl, S, v, u, N, st, rfl, k1.live hS, hN.mono k1.hid0, g, Dp.mono k1.hid0 h1, hs, fun d H2 f k2 nd hd lay ok => ?_⟩
    refine ⟨d, _, rfl, hd, True.intro, fun od => ?_⟩
    have kA : Kp [] H (upd H2 d (.frz od (.dT (eF f)))) := (k1.trans k2).put (k1.free nd)
    have dA : (upd H2 d (.frz od (.dT (eF f)))) d = some (.frz od (.dT (eF f))) := upd_same
    refine ⟨d, od, rfl, .inr ⟨eF f, upd_same, fun D hD => ?_⟩⟩
    generalize (upd H2 d (.frz od (.dT (eF f)))) = HA at kA dA hD ⊢
    have hDS : D ∉ S := not_mem_of (kA.live hS) hD
    refine lc_it walkF (fun i H' => ∃ acc, Kp [] HA H' ∧ H' D = some (.lst acc) ∧ acc.length ≤ i ∧ DpAll K (hid (D :: S) H') acc (((keysF f).take i).map eW) ∧ ∀ y ∈ acc, ∃ q xs, y = .ref q ∧ HA q = none ∧ q ≠ D ∧ H' q = some (.lst xs) ∧ xs.length ≤ 1000)
      ⟨[], kp_new hD, upd_same, Nat.le_refl _, .nil, by simp⟩ (fun i H' _ ⟨_, kp, _⟩ => kp.same _ _ dA) ?_ ?_
    · rintro i x H3 H4 hi ⟨acc, kp, ha, hlen, hda, hnew⟩ ⟨rfl, y⟩
      have hg := List.getElem?_eq_getElem hi
      obtain ⟨q, rfl, hq⟩ := y _ hg
      have few := ok.few g
      have kl : (keysF f).length ≤ 256 := by unfold keysF; rw [List.length_map]; exact few
      refine ⟨rfl, _, rfl, q, _, rfl, .inr (.inl (.inl hq)), fun p np => ?_⟩
      have eDp : D ≠ p := ne_of_none ha np
      refine ⟨acc, by rw [upd_ne eDp]; exact ha, by rw [sizeLine_eq]; omega, acc ++ [.ref p], (kp.put (kp.free np)).put hD, upd_same, by rw [List.length_append, List.length_singleton]; omega, ?_, fun y hy => ?_⟩
      · rw [hid_in (List.mem_cons_self ..), take_snoc' hg, List.map_append]
        refine DpAll.append (DpAll.mono (kp_new np).hid0 hda) (.cons (words_dp (.inl (.inl (hid_at upd_same ?_)))) .nil)
        intro z
        rcases List.mem_cons.mp z with z | z
        · exact eDp z.symm
        · exact not_mem_of (kA.live hS) (kp.free np) z
      · rcases List.mem_append.mp hy with hy | hy
        · obtain ⟨q2, xs, rfl, n2, d2, e2, l2⟩ := hnew y hy
          exact ⟨q2, xs, rfl, n2, d2, by rw [upd_ne d2, upd_ne (ne_of_none e2 np)]; exact e2, l2⟩
        · rw [List.mem_singleton.mp hy]
          refine ⟨p, _, rfl, kp.free np, eDp.symm, by rw [upd_ne eDp.symm, upd_same], ?_⟩
          rw [List.length_map]
          have := (ok.sets _ (List.mem_of_getElem? hg)).len g
          omega
    · rintro H3 ⟨acc, kp, ha, hlen, hda, hnew⟩
      rw [List.take_length] at hda
      refine sort_ans2 (.inl (.inl ha)) hda hid_le (al_words _) (ok_words _) dep_words fun p ys np dy sub => ?_
      have kB := kA.trans kp
      refine k p _ ys f lay ok (kB.new np) (kB.free np) upd_same (DpAll.mono (hid_tail.trans (kp_new np).hid0) dy) fun y hy => ?_
      obtain ⟨q2, xs, rfl, n2, d2, e2, l2⟩ := hnew y (sub y hy)
      exact ⟨q2, xs, rfl, kA.free n2, by rw [upd_ne (ne_of_none e2 np)]; exact e2, l2⟩
def spDeeds (K : PySem.W.Frag) (C : Addr) : Sp := fun vs H Q _ => ∃ (S : List Addr) (v u : L2.V) (N : Net) (s : List Str), vs = [v, u] ∧ Live S H ∧ NetV K C (hid S H) v N ∧ Good N ∧ Dp K (hid S H) u (eW s) ∧ IsSet N s ∧
  ∀ a H' g, Layers N s g → KeysOk N g → Kp [] H H' → H a = none → H' a = some (.lst ((deedsF g).map L2.V.int)) → Q (.ref a) H'
theorem deeds_map (f : Fd) : ((List.range (mostF f + 1)).map fun n => PyData.int ((numsF f).count n : Int)) = (deedsF f).map .int := by
  unfold deedsF
  rw [List.map_map]
  rfl
theorem c_by_deeds (Y : Env K mg C) : Def P w K mg base (Str.ofString "by_deeds") 7 ["net", "setting"] (spDeeds K C) := by
  refine def_mk Y.t_by_deeds sc_by_deeds bb_by_deeds (fun vs H Q E h => ?_) (fun f cdv A outer s H vs Q E hr h => ?_)
  · obtain ⟨S, v, u, N, s, rfl, _⟩ := h
    rfl
  · obtain ⟨S, v, u, N, st, rfl, hS, hN, g, h1, hs, k⟩ := h
    refine ⟨_, (pss_cons (ps_expr (pe_def (c_check_set Y) (hr.mono (by decide)) (pa_cons (pv 0) (pa_cons (pv 1) pa_nil))))
    (pss_cons (ps_set (i := 2) sc_by_deeds.nd rfl (Or.inr rfl) (pe_listVals rfl (pe_frz (pe_def (c_layers_from Y) (hr.mono (by decide)) (pa_cons (pv 0) (pa_cons (pv 1) pa_nil)))) (by rfl) Y.n_list))
    (pss_one (ps_ret (pe_lc (own := [("number", 3)]) rfl sc_by_deeds.nd (pi_range1 rfl Y.n_range (pa_cons (pe_op op_add (pe_callB (K_max (K := K) rfl rfl) (by rfl) Y.n_max (by decide +kernel) (pa_cons (pv 2) pa_nil)) pe_int) pa_nil)) (blkOk_by (own := [("number", 3)]) (N := ["net", "setting", "numbers", "number"]) (sc := defScope s_by_deeds) (by decide +kernel)) (fun _ _ _ _ _ => (pg_name (i := 3) sc_by_deeds.nd rfl (Or.inl rfl))) (fun _ _ _ _ _ => pts_nil) (fun _ _ _ _ _ => (K_bm (K := K) rfl PySem.F.plainAttrs_list PySem.F.slot_list_count PySem.F.type_list_count (K_count (K := K) rfl) (pv 2) (pa_cons (pv 3) pa_nil)))))))), ?_⟩
    refine ⟨_, rfl, _, rfl, S, v, [u], N, [eW st], _, rfl, hS, hN, g, .cons h1 .nil, ⟨st, rfl, hs, rfl⟩, fun v1 H1 k1 hv => ?_⟩
    refine ⟨_, rfl, _, rfl, S, v, u, N, st, rfl, k1.live hS, hN.mono k1.hid0, g, Dp.mono k1.hid0 h1, hs, fun d H2 f k2 nd hd lay ok => ?_⟩
    refine ⟨d, _, rfl, hd, True.intro, fun od => ?_⟩
    have kA : Kp [] H (upd H2 d (.frz od (.dT (eF f)))) := (k1.trans k2).put (k1.free nd)
    have dA : (upd H2 d (.frz od (.dT (eF f)))) d = some (.frz od (.dT (eF f))) := upd_same
    generalize (upd H2 d (.frz od (.dT (eF f)))) = HA at kA dA ⊢
    refine ⟨d, _, rfl, .inr ⟨od, dA⟩, fun p np => ?_⟩
    rw [vals_eF]
    have kB := kA.new (o := .lst (((numsF f).map fun n : Nat => (n : Int)).map L2.V.int)) np
    have pB : (upd HA p (.lst (((numsF f).map fun n : Nat => (n : Int)).map L2.V.int))) p = some (.lst (((numsF f).map fun n : Nat => (n : Int)).map L2.V.int)) := upd_same
    generalize (upd HA p (.lst (((numsF f).map fun n : Nat => (n : Int)).map L2.V.int))) = HB at kB pB ⊢
    have hne := keys_ne lay.start
    have few := ok.few g
    refine ⟨_, rfl, p, _, rfl, .inl (.inl pB), by rw [List.length_map]; exact List.length_pos_iff.mpr hne, fun m hm hle => ?_⟩
    have em := most_cast hne hm hle
    subst em
    have hm1 := mostF_le g ok
    have em : (mostL (numsF f) : Int) = (mostF f : Int) := rfl
    rw [em]
    refine ⟨_, _, rfl, rfl, (mostF f : Int) + 1, rfl, by omega, by omega, fun D hD => ?_⟩
    rw [show ((mostF f : Int) + 1).toNat = mostF f + 1 by omega]
    refine lcS (K := K) (S := S) (walkR (lo := 0) (n := mostF f + 1)) (fun n => .int ((numsF f).count n : Int)) hD (kB.live hS) (by rw [List.length_range]; omega) (fun H1 kp => trivial) ?_ ?_
    · rintro i x x1 H4 H5 Yes hi kp hL ⟨rfl, rfl⟩ yes
      obtain ⟨rfl, hi⟩ := range_at hi
      have hp5 : SqL K H5 p _ := .inl (.inl (kp.same _ _ pB))
      refine ⟨rfl, _, rfl, .inl ⟨rfl, _, hp5⟩, _, rfl, p, _, _, rfl, rfl, hp5, ?_⟩
      rw [show (0 : Int) + (x : Int) = (x : Int) by omega, count_cast]
      exact yes _ _ .refl (.int _)
    · intro H2 ys kp hL hl hle da dp
      rw [deeds_map] at da
      rw [da_ints da] at hl
      exact k D H2 f lay ok (kB.trans kp) (kB.free hD) hl
def spFar (K : PySem.W.Frag) (C : Addr) : Sp := fun vs H Q _ => ∃ (S : List Addr) (v u : L2.V) (N : Net) (s : List Str), vs = [v, u] ∧ Live S H ∧ NetV K C (hid S H) v N ∧ Good N ∧ Dp K (hid S H) u (eW s) ∧ IsSet N s ∧
  ∀ a H' g t, Layers N s g → KeysOk N g → Kp [] H H' → H a = none → H' a = some (.lst (t.map L2.V.str)) → t ∈ keysF g → lkF g t = mostF g → Q (.ref a) H'
theorem c_farthest (Y : Env K mg C) : Def P w K mg base (Str.ofString "farthest") 7 ["net", "setting"] (spFar K C) := by
  refine def_mk Y.t_farthest sc_farthest bb_farthest (fun vs H Q E h => ?_) (fun f cdv A outer s H vs Q E hr h => ?_)
  · obtain ⟨S, v, u, N, s, rfl, _⟩ := h
    rfl
  · obtain ⟨S, v, u, N, st, rfl, hS, hN, g, h1, hs, k⟩ := h
    have hu := hu_of hr
    refine ⟨_, (pss_cons (ps_expr (pe_def (c_check_set Y) (hr.mono (by decide)) (pa_cons (pv 0) (pa_cons (pv 1) pa_nil))))
    (pss_cons (ps_set (i := 2) sc_farthest.nd rfl (Or.inr rfl) (pe_frz (pe_def (c_layers_from Y) (hr.mono (by decide)) (pa_cons (pv 0) (pa_cons (pv 1) pa_nil)))))
    (pss_cons (ps_set (i := 3) sc_farthest.nd rfl (Or.inr rfl) (pe_maxVals rfl (pv 2) (by rfl) Y.n_max))
    (pss_one (ps_ret (pe_callTy (K_list (K := K) rfl) (by rfl) Y.n_list (by decide +kernel) (pa_cons (pe_ix (K_ixL (K := K) rfl) (pe_lc (own := [("here", 4)]) rfl sc_farthest.nd (pi_keys (pv 2)) (blkOk_by (own := [("here", 4)]) (N := ["net", "setting", "layers", "most", "here"]) (sc := defScope s_farthest) (by decide +kernel)) (fun _ _ _ _ _ => (pg_name (i := 4) sc_farthest.nd rfl (Or.inl rfl))) (fun _ _ _ _ _ => (pts_one (pt_cmpR op_eq (pe_dget (hu_of hr) (pv 2) (pv 4) (fun _ _ => rfl)) (pv 3) (nomark _)))) (fun _ _ _ _ _ => (pv 4))) pe_int (fun _ _ => rfl)) pa_nil))))))), ?_⟩
    refine ⟨_, rfl, _, rfl, S, v, [u], N, [eW st], _, rfl, hS, hN, g, .cons h1 .nil, ⟨st, rfl, hs, rfl⟩, fun v1 H1 k1 hv => ?_⟩
    refine ⟨_, rfl, _, rfl, S, v, u, N, st, rfl, k1.live hS, hN.mono k1.hid0, g, Dp.mono k1.hid0 h1, hs, fun d H2 f k2 nd hd lay ok => ?_⟩
    refine ⟨d, _, rfl, hd, True.intro, fun od => ?_⟩
    have kA : Kp [] H (upd H2 d (.frz od (.dT (eF f)))) := (k1.trans k2).put (k1.free nd)
    have dA : (upd H2 d (.frz od (.dT (eF f)))) d = some (.frz od (.dT (eF f))) := upd_same
    generalize (upd H2 d (.frz od (.dT (eF f)))) = HA at kA dA ⊢
    have few := ok.few g
    refine ⟨_, rfl, ?_⟩
    have hne := keys_ne lay.start
    refine ⟨d, eF f, _, rfl, .inr ⟨od, dA⟩, vals_eF f, fun e => hne (List.map_eq_nil_iff.mp e), fun m hm hle => ?_⟩
    have em := most_cast hne hm hle
    subst em
    have em : (mostL (numsF f) : Int) = (mostF f : Int) := rfl
    rw [em]
    refine ⟨_, rfl, d, od, rfl, .inr ⟨eF f, dA, fun D hD => ?_⟩⟩
    refine lcT2 (K := K) (items := keysF f) (S := []) walkF (fun k => decide (lkF f k = mostF f)) (fun k => .tuple (k.map .str)) hD Live.nil (by unfold keysF; rw [List.length_map]; omega) (fun H' kp => kp.same _ _ dA) ?_ ?_
    · rintro i x x1 Ha Hb Yes No hi kp hL ⟨acc, hacc⟩ ⟨rfl, y⟩ yes no
      obtain ⟨q, rfl, hq⟩ := y x hi
      have dB : Hb d = some (.frz od (.dT (eF f))) := kp.same _ _ dA
      have gq : DGet Hb d (.ref q) (some (.int (lkF f x : Int))) := by
        have z : DGet Hb d (.ref q) (valV (eF f) (x.map Sum.inr : List Key)) := .inr ⟨eF f, x.map Sum.inr, q, .inr ⟨od, dB⟩, rfl, by rw [kV_inr]; exact hq, rfl⟩
        rw [valV_eF, if_pos (List.mem_of_getElem? hi)] at z
        exact z
      have qD : q ≠ D := fun e => by
        subst e
        rw [hq] at hacc
        cases hacc
      refine ⟨rfl, _, rfl, _, rfl, d, _, rfl, gq, _, rfl, rfl, _, rfl, ?_⟩
      rw [int_eqb]
      by_cases h : lkF f x = mostF f
      · refine if_yes (decide_eq_true (by omega)) ⟨_, rfl, yes _ _ .refl (decide_eq_true h) (wtup_dp (.inl (.inl (hid_at hq ?_))))⟩
        intro z
        exact qD (List.mem_singleton.mp z)
      · exact if_no (decide_eq_false (by omega)) (no _ .refl (decide_eq_false h))
    · intro Ha ys kp hL hl hle da dp
      obtain ⟨t0, ht0, et0⟩ := most_key ok lay.start
      have hne2 : 0 < ((keysF f).filter fun k => decide (lkF f k = mostF f)).length := List.length_pos_of_mem (List.mem_filter.mpr ⟨ht0, decide_eq_true et0⟩)
      obtain ⟨hm, hq⟩ := List.mem_filter.mp (List.getElem_mem hne2)
      obtain ⟨v0, hv0, hd0⟩ := da_get da (List.getElem?_eq_getElem hne2)
      obtain ⟨q, xs, rfl, hq1, hq2⟩ := dp_tuple hd0
      rw [da_strs hq2] at hq1
      refine ⟨D, ys, 0, _, rfl, rfl, .inl (.inl hl), atI_nat (j := 0) hv0, q, _, rfl, .inr (Same.tup hid_le hq1), fun p np => ?_⟩
      exact k p _ f _ lay ok ((kA.trans kp).new np) ((kA.trans kp).free np) upd_same hm (of_decide_eq_true hq)
def spIsFar (K : PySem.W.Frag) (C : Addr) : Sp := fun vs H Q _ => ∃ (S : List Addr) (v u x : L2.V) (N : Net) (s : List Str) (d : PyData), vs = [v, u, x] ∧ Live S H ∧ NetV K C (hid S H) v N ∧ Good N ∧ Dp K (hid S H) u (eW s) ∧ IsSet N s ∧ Dp K (hid S H) x d ∧ SeqAt.shaped d = true ∧
  ∀ H' g, Layers N s g → KeysOk N g → Kp [] H H' → Q (.bl (farB g d)) H'
theorem any_words {g : Fd} {d : PyData} : ((keysF g).map eW).any (fun z => PyData.eqv z d) = true ↔ ∃ k ∈ keysF g, d = eW k := by
  rw [List.any_eq_true]
  constructor
  · rintro ⟨z, hz, e⟩
    obtain ⟨k, hk, rfl⟩ := List.mem_map.mp hz
    exact ⟨k, hk, eqv_words.mp e⟩
  · rintro ⟨k, hk, e⟩
    exact ⟨eW k, List.mem_map.mpr ⟨k, hk, rfl⟩, eqv_words.mpr e⟩
theorem c_is_farthest (Y : Env K mg C) : Def P w K mg base (Str.ofString "is_farthest") 7 ["net", "setting", "value"] (spIsFar K C) := by
  refine def_mk Y.t_is_farthest sc_is_farthest bb_is_farthest (fun vs H Q E h => ?_) (fun f cdv A outer s H vs Q E hr h => ?_)
  · obtain ⟨S, v, u, x, N, s, d, rfl, _⟩ := h
    rfl
  · obtain ⟨S, v, u, x, N, st, dd, rfl, hS, hN, g, h1, hs, hx, hsh, k⟩ := h
    have hu := hu_of hr
    refine ⟨_, (pss_cons (ps_expr (pe_def (c_check_set Y) (hr.mono (by decide)) (pa_cons (pv 0) (pa_cons (pv 1) pa_nil))))
    (pss_cons (ps_set (i := 3) sc_is_farthest.nd rfl (Or.inl rfl) (pe_frz (pe_def (c_layers_from Y) (hr.mono (by decide)) (pa_cons (pv 0) (pa_cons (pv 1) pa_nil)))))
    (pss_cons (ps_if (PW.pt (pw_or (pt_not (pt_val (pe_callB (K_isi (K := K) rfl) (by rfl) Y.n_isinstance (by decide +kernel) (pa_cons (pv 2) (pa_cons (pe_bltn (u := .type "list") (v := .ty "list") rfl Y.n_list (by decide +kernel) rfl) pa_nil))))) (pw_or1 (pt_cmpR (K_notInD (K := K) rfl (hu65 hr)) (pv 2) (pe_lc (own := [("here", 4)]) rfl sc_is_farthest.nd (pi_keys (pv 3)) (blkOk_by (own := [("here", 4)]) (N := ["net", "setting", "value", "layers", "here"]) (sc := defScope s_is_farthest) (by decide +kernel)) (fun _ _ _ _ _ => (pg_name (i := 4) sc_is_farthest.nd rfl (Or.inl rfl))) (fun _ _ _ _ _ => pts_nil) (fun _ _ _ _ _ => (pe_callTy (K_list (K := K) rfl) (by rfl) Y.n_list (by decide +kernel) (pa_cons (pv 4) pa_nil)))) rfl)))) (pss_one (ps_ret pe_bl)) pss_nil)
    (pss_one (ps_ret (pe_cmpR op_eq (pe_dget (hu_of hr) (pv 3) (pe_callTy (K_tuple (K := K) rfl) (by rfl) Y.n_tuple (by decide +kernel) (pa_cons (pv 2) pa_nil)) (fun _ _ => rfl)) (pe_maxVals rfl (pv 3) (by rfl) Y.n_max) (nomark _))))))), ?_⟩
    refine ⟨_, rfl, _, rfl, S, v, [u], N, [eW st], _, rfl, hS, hN, g, .cons h1 .nil, ⟨st, rfl, hs, rfl⟩, fun v1 H1 k1 hv => ?_⟩
    refine ⟨_, rfl, _, rfl, S, v, u, N, st, rfl, k1.live hS, hN.mono k1.hid0, g, Dp.mono k1.hid0 h1, hs, fun d H2 f k2 nd hd lay ok => ?_⟩
    refine ⟨d, _, rfl, hd, True.intro, fun od => ?_⟩
    have kA : Kp [] H (upd H2 d (.frz od (.dT (eF f)))) := (k1.trans k2).put (k1.free nd)
    have dA : (upd H2 d (.frz od (.dT (eF f)))) d = some (.frz od (.dT (eF f))) := upd_same
    generalize (upd H2 d (.frz od (.dT (eF f)))) = HA at kA dA ⊢
    have few := ok.few g
    have hxA := Dp.mono kA.hid0 hx
    obtain ⟨t, ht1, ht2⟩ := isi_dp (Dp.mono hid_le hxA) (T := "list") (by simp)
    refine ⟨_, rfl, _, _, _, _, _, rfl, .ty "list", ht1, ht2, _, rfl, ?_⟩
    by_cases hli : ∃ es, dd = .list es
    · obtain ⟨es, rfl⟩ := hli
      refine if_no rfl ?_
      refine ⟨_, rfl, _, rfl, d, od, rfl, .inr ⟨eF f, dA, fun D hD => ?_⟩⟩
      refine lcS (K := K) (items := keysF f) (S := S) walkF eW hD (kA.live hS) (by unfold keysF; rw [List.length_map]; omega) (fun H' kp => kp.same _ _ dA) ?_ ?_
      · rintro i z x1 Ha Hb Yes hi kp hL ⟨rfl, y⟩ yes
        obtain ⟨q, rfl, hq⟩ := y z hi
        refine ⟨rfl, _, rfl, q, _, rfl, .inr (.inl (.inl hq)), fun p np => ?_⟩
        exact yes _ _ (kp_new np) (words_dp (.inl (.inl (hid_at upd_same (not_mem_of hL np)))))
      · intro Ha ys kp hL hl hle da dp
        have hsl : SeqAt.shaped (.list ((keysF f).map eW)) = true := (fine_list fun z hz => fine_words (g.lows (ok.sets z hz))).shaped (n := 2) (by decide)
        have hxB := Dp.mono kp.hid0 hxA
        refine ⟨_, _, Dp.mono hid_le hxB, Dp.mono hid_le dp, hsh, hsl, _, rfl, ?_⟩
        by_cases hin : ∃ z ∈ keysF f, PyData.list es = eW z
        · rw [any_words.mpr hin]
          refine if_no rfl ?_
          obtain ⟨z, hz, ez⟩ := hin
          rw [ez] at hxB k
          obtain ⟨a, rfl, hl⟩ := dp_words hxB
          refine ⟨_, rfl, _, rfl, a, _, rfl, .inl ⟨hid_le.seq hl, fun q nq => ?_⟩⟩
          have kq := (kA.trans kp).new (o := .tup (z.map L2.V.str)) nq
          have dq : (upd Ha q (.tup (z.map L2.V.str))) d = some (.frz od (.dT (eF f))) := (kp.new (o := .tup (z.map L2.V.str)) nq).same _ _ dA
          have gq : DGet (upd Ha q (.tup (z.map L2.V.str))) d (.ref q) (some (.int (lkF f z : Int))) := by
            have w : DGet (upd Ha q (.tup (z.map L2.V.str))) d (.ref q) (valV (eF f) (z.map Sum.inr : List Key)) := .inr ⟨eF f, z.map Sum.inr, q, .inr ⟨od, dq⟩, rfl, by rw [kV_inr]; exact upd_same, rfl⟩
            rw [valV_eF, if_pos hz] at w
            exact w
          refine ⟨d, _, rfl, gq, _, rfl, ?_⟩
          have hne := keys_ne lay.start
          refine ⟨d, eF f, _, rfl, .inr ⟨od, dq⟩, vals_eF f, fun e => hne (List.map_eq_nil_iff.mp e), fun m hm hle => ?_⟩
          have em := most_cast hne hm hle
          subst em
          have em : (mostL (numsF f) : Int) = (mostF f : Int) := rfl
          rw [em]
          refine ⟨rfl, ?_⟩
          rw [int_eqb]
          have ef : decide ((lkF f z : Int) = (mostF f : Int)) = farB f (eW z) := by
            rw [farB_eW hz]
            by_cases h : lkF f z = mostF f
            · rw [decide_eq_true h, decide_eq_true (by omega)]
            · rw [decide_eq_false h, decide_eq_false (by omega)]
          rw [ef]
          exact k _ f lay ok kq
        · have e : ((keysF f).map eW).any (fun z => PyData.eqv z (.list es)) = false := by
            cases q : ((keysF f).map eW).any (fun z => PyData.eqv z (.list es)) with
            | false => rfl
            | true => exact absurd (any_words.mp q) hin
          rw [e]
          refine if_yes rfl ?_
          have q := k _ f lay ok (kA.trans kp)
          rw [farB_no fun z hz e => hin ⟨z, hz, e⟩] at q
          exact q
    · have e : isS "list" (tyN dd) = false := by
        cases hx with
        | lst _ _ => exact absurd ⟨_, rfl⟩ hli
        | non => exact (by decide : isS "list" "NoneType" = false)
        | bl b => exact (by decide : isS "list" "bool" = false)
        | int b => exact (by decide : isS "list" "int" = false)
        | str b => exact (by decide : isS "list" "str" = false)
        | tup _ _ => exact (by decide : isS "list" "tuple" = false)
      rw [e]
      refine if_yes rfl ?_
      have q := k _ f lay ok kA
      rw [farB_no fun z hz e => hli ⟨_, e⟩] at q
      exact q
def spWidth (K : PySem.W.Frag) (C : Addr) : Sp := fun vs H Q _ => ∃ (S : List Addr) (v u : L2.V) (N : Net) (s : List Str), vs = [v, u] ∧ Live S H ∧ NetV K C (hid S H) v N ∧ Good N ∧ Dp K (hid S H) u (eW s) ∧ IsSet N s ∧
  ∀ H' m, WidthIs N s m → Kp [] H H' → Q (.int (m : Int)) H'
theorem width_of {N : Net} {s : List Str} {f : Fd} (lay : Layers N s f) (all : ∀ k ∈ keysF f, Layers N k (layersOf N k)) {m : Int} (h : m ∈ (keysF f).map fun k => (mostF (layersOf N k) : Int)) (hle : ∀ y ∈ (keysF f).map (fun k => (mostF (layersOf N k) : Int)), y ≤ m) :
    ∃ n : Nat, m = (n : Int) ∧ WidthIs N s n := by
  obtain ⟨k, hk, rfl⟩ := List.mem_map.mp h
  refine ⟨_, rfl, f, lay, ⟨k, hk, _, all k hk, rfl⟩, fun j hj h lj => ?_⟩
  have q := hle _ (List.mem_map.mpr ⟨j, hj, rfl⟩)
  rw [layersOf_eq lj] at q
  omega
theorem c_width (Y : Env K mg C) : Def P w K mg base (Str.ofString "width") 7 ["net", "setting"] (spWidth K C) := by
  refine def_mk Y.t_width sc_width bb_width (fun vs H Q E h => ?_) (fun f cdv A outer s H vs Q E hr h => ?_)
  · obtain ⟨S, v, u, N, s, rfl, _⟩ := h
    rfl
  · obtain ⟨S, v, u, N, st, rfl, hS, hN, g, h1, hs, k⟩ := h
    refine ⟨_, (pss_cons (ps_expr (pe_def (c_check_set Y) (hr.mono (by decide)) (pa_cons (pv 0) (pa_cons (pv 1) pa_nil))))
    (pss_one (ps_ret (pe_callB (K_max (K := K) rfl rfl) (by rfl) Y.n_max (by decide +kernel) (pa_cons (pe_lc (own := [("here", 2)]) rfl sc_width.nd (pi_keys (pe_frz (pe_def (c_layers_from Y) (hr.mono (by decide)) (pa_cons (pv 0) (pa_cons (pv 1) pa_nil))))) (blkOk_by (own := [("here", 2)]) (N := ["net", "setting", "here"]) (sc := defScope s_width) (by decide +kernel)) (fun _ _ _ _ _ => (pg_name (i := 2) sc_width.nd rfl (Or.inl rfl))) (fun _ _ _ _ _ => pts_nil) (fun _ _ _ _ _ => (pe_maxVals rfl (pe_frz (pe_def (c_layers_from Y) (hr.mono (by decide)) (pa_cons (pv 0) (pa_cons (pe_callTy (K_list (K := K) rfl) (by rfl) Y.n_list (by decide +kernel) (pa_cons (pv 2) pa_nil)) pa_nil)))) (by rfl) Y.n_max))) pa_nil))))), ?_⟩
    refine ⟨_, rfl, _, rfl, S, v, [u], N, [eW st], _, rfl, hS, hN, g, .cons h1 .nil, ⟨st, rfl, hs, rfl⟩, fun v1 H1 k1 hv => ?_⟩
    refine ⟨_, rfl, _, rfl, S, v, u, N, st, rfl, k1.live hS, hN.mono k1.hid0, g, Dp.mono k1.hid0 h1, hs, fun d H2 f k2 nd hd lay ok => ?_⟩
    refine ⟨d, _, rfl, hd, True.intro, fun od => ?_⟩
    have kA : Kp [] H (upd H2 d (.frz od (.dT (eF f)))) := (k1.trans k2).put (k1.free nd)
    have dA : (upd H2 d (.frz od (.dT (eF f)))) d = some (.frz od (.dT (eF f))) := upd_same
    have few := ok.few g
    have hNA := hN.mono (kA.hid0 (S := S))
    have hSA := kA.live hS
    refine ⟨d, od, rfl, .inr ⟨eF f, upd_same, fun D hD => ?_⟩⟩
    generalize (upd H2 d (.frz od (.dT (eF f)))) = HA at kA dA hD hNA hSA ⊢
    refine lcRM (K := K) (S := S) (T := []) walkF (fun _ _ => True) (fun i ds => ds = ((keysF f).take i).map (fun k => .int (mostF (layersOf N k) : Int)) ∧ ∀ k ∈ (keysF f).take i, Layers N k (layersOf N k)) hD (by simp) hSA (by unfold keysF; rw [List.length_map]; omega) (fun H' kp => kp.same _ _ dA) ⟨rfl, by simp⟩ trivial (fun _ _ _ _ => trivial) ?_ ?_
    · rintro i x1 Ha Hb ds Yes hi kp hL _ ⟨rfl, hall⟩ ⟨rfl, y⟩ yes
      have hg := List.getElem?_eq_getElem hi
      obtain ⟨q, rfl, hq⟩ := y _ hg
      have hset := ok.sets _ (List.getElem_mem hi)
      have m : Same (hid S HA) (hid (D :: S) Hb) := by
        rw [← hid_cons hD]
        exact kp.hid0
      refine ⟨rfl, _, rfl, _, rfl, q, _, rfl, .inr (.inl (.inl hq)), fun p np => ?_⟩
      refine ⟨D :: S, v, .ref p, N, (keysF f)[i], rfl, (kp_new (T := []) np).live hL, hNA.mono (m.trans (kp_new np).hid0), g, words_dp (.inl (.inl (hid_at upd_same (not_mem_of hL np)))), hset, fun d2 H3 f2 k3 nd2 hd2 lay2 ok2 => ?_⟩
      refine ⟨d2, _, rfl, hd2, True.intro, fun od2 => ?_⟩
      have hne := keys_ne lay2.start
      refine ⟨d2, eF f2, _, rfl, .inr ⟨od2, upd_same⟩, vals_eF f2, fun e => hne (List.map_eq_nil_iff.mp e), fun m hm hle => ?_⟩
      have em := most_cast hne hm hle
      subst em
      have e2 := layersOf_eq lay2
      refine yes _ _ (.int (mostF (layersOf N (keysF f)[i]) : Int)) (((kp_new np).trans k3).put ((kp_new (T := []) np).free nd2)) trivial ?_ ?_
      · rw [e2]
        exact .int _
      · rw [take_snoc' hg, List.map_append]
        refine ⟨rfl, fun z hz => ?_⟩
        rcases List.mem_append.mp hz with hz | hz
        · exact hall z hz
        · rw [List.mem_singleton.mp hz, e2]
          exact lay2
    · rintro H3 ys ds kp hL _ ⟨rfl, hall⟩ hl hle da dp
      rw [List.take_length] at hall da
      have ei : ((keysF f).map fun k => PyData.int (mostF (layersOf N k) : Int)) = ((keysF f).map fun k => (mostF (layersOf N k) : Int)).map .int := by
        rw [List.map_map]
        rfl
      rw [ei] at da
      rw [da_ints da] at hl
      refine ⟨D, _, rfl, .inl (.inl hl), by rw [List.length_map]; exact List.length_pos_of_mem lay.start, fun m hm hle2 => ?_⟩
      obtain ⟨n, rfl, hw⟩ := width_of lay hall hm hle2
      exact k H3 n hw (kA.trans kp)
end
end K41
namespace K41
open PySem PySem.Spec PyProof.Rows L2 PySem.W
section
variable {P : Program} {w : World} {K : PySem.W.Frag} {mg : Str → Option Value} {base : Heap} {C : Addr}
theorem cutV_map (ns : List Int) (lo hi : Option Int) : ∃ ms : List Int, cutV (ns.map L2.V.int) lo hi = ms.map L2.V.int := by
  unfold cutV
  exact ⟨_, by rw [← List.map_drop, ← List.map_take]⟩
def spPurse (K : PySem.W.Frag) : Sp := fun vs H Q _ => ∃ (a : Addr) (ns : List Int), vs = [.ref a, .int 0] ∧ SqL K H a (ns.map L2.V.int) ∧ ∀ p H', Kp [] H H' → H p = none → Purse H' p 0 → Q (.ref p) H'
theorem pow10 : Builtin.Int.intBits 10 = 4 := by decide
theorem c_l_purse (Y : Env K mg C) : Def P w K mg base (Str.ofString "_law_purse") 1 ["_law_script", "_law_at"] (spPurse K) := by
  refine def_mk Y.t_l_purse sc_l_purse bb_l_purse (fun vs H Q E h => ?_) (fun f cdv A outer s H vs Q E hr h => ?_)
  · obtain ⟨a, ns, rfl, _⟩ := h
    rfl
  · obtain ⟨a, ns, rfl, hs, k⟩ := h
    refine ⟨_, (pss_cons (ps_set (i := 2) sc_l_purse.nd rfl (Or.inl rfl) (pe_callB (K_sum (K := K) rfl rfl) (by rfl) Y.n_sum (by decide +kernel) (pa_cons (pe_slice (K_slL (K := K) rfl) (pv 0) (po_some (pv 1)) (po_some (pe_op op_add (pv 1) pe_int))) pa_nil)))
    (pss_one (ps_ret (pe_lst (pa_cons (pe_op op_mod (pe_callTy call_int1 (by rfl) Y.n_int (by decide +kernel) (pa_cons (pe_callB (call_max2 rfl) (by rfl) Y.n_max (by decide +kernel) (pa_cons (pe_op op_sub (pv 2) (pe_op op_powW pe_int pe_int)) (pa_cons pe_int pa_nil))) pa_nil)) (pe_op op_powW (pe_op op_powW pe_int pe_int) pe_int)) (pa_cons (pe_op op_mod (pe_callTy call_int1 (by rfl) Y.n_int (by decide +kernel) (pa_cons (pv 2) pa_nil)) pe_int) (pa_cons pe_int (pa_cons (pv 1) pa_nil)))))))), ?_⟩
    refine ⟨_, rfl, _, rfl, _, rfl, _, rfl, _, _, rfl, rfl, _, rfl, a, _, rfl, hs, fun p np => ?_⟩
    obtain ⟨ms, em⟩ := cutV_map ns (some 0) (some (0 + 1))
    refine ⟨p, ms, rfl, .inl (.inl ?_), ?_⟩
    · rw [upd_same]
      exact congrArg (fun x => some (HO.lst x)) em
    refine ⟨_, rfl, _, _, rfl, rfl, ⟨by decide, by decide⟩, _, _, rfl, rfl, _, _, rfl, .inl ⟨_, rfl, ?_⟩⟩
    refine ⟨_, _, rfl, rfl, ⟨by decide, by decide⟩, _, _, rfl, rfl, ⟨by decide, by decide +kernel⟩, _, _, rfl, rfl, ?_, ?_⟩
    · show (0 : Int) < _
      exact Int.pow_pos (Int.pow_pos (by decide))
    refine ⟨_, rfl, .inl ⟨_, rfl, _, _, rfl, rfl, (by show (0 : Int) < 2147483629; decide), ?_⟩⟩
    refine ⟨_, rfl, (by show 4 ≤ sizeLine; decide), fun q nq => ?_⟩
    refine k q _ ((kp_new np).new nq) ((kp_new (T := []) np).free nq) ⟨_, _, 0, upd_same, Int.emod_nonneg _ ?_, Int.emod_nonneg _ (by decide), Int.emod_lt_of_pos _ (by decide), Int.le_refl _, Int.le_refl _⟩
    have : (0 : Int) < ((10 ^ (60 : Int).toNat) ^ (8 : Int).toNat) := Int.pow_pos (Int.pow_pos (by decide))
    exact fun e => by rw [e] at this; exact absurd this (by decide)
def mix0 (a b : Int) : Int := a * 69069 + 104729 * b * b
def mix1 (a b : Int) : Int := (mix0 a b + 7919 * 0 + b) % 2147483647
def mix2 (a b : Int) : Int := (mix1 a b * mix1 a b + 40503) % 2147483629
def mix3 (a b : Int) : Int := (mix2 a b * 48271) % 2147483587
def rMixed (ds : List PyData) (d : PyData) : Prop := ∃ a b : Int, ds = [.int a, .int b, .int 0] ∧ 0 ≤ a ∧ a < 2147483629 ∧ 0 ≤ b ∧ b ≤ 2000000000 ∧ d = .int (mix3 a b)
theorem c_l_mixed (Y : Env K mg C) : Def P w K mg base (Str.ofString "_law_mixed") 1 ["_law_seed", "_law_spin", "_law_at"] (spR K rMixed) := by
  refine def_mk Y.t_l_mixed sc_l_mixed bb_l_mixed (fun vs H Q E h => ?_) (fun f cdv A outer s H vs Q E hr h => ?_)
  · obtain ⟨S, ds, d, _, h, ⟨a, b, rfl, _⟩, _⟩ := h
    exact DpAll.length h
  · obtain ⟨S, ds, d, hS, h, ⟨a, b, rfl, h1, h2, h3, h4, rfl⟩, k⟩ := h
    obtain ⟨v, u, x, rfl, e1, e2, e3⟩ := da3 h
    obtain rfl := dp_int e1
    obtain rfl := dp_int e2
    obtain rfl := dp_int e3
    have m1 : 0 ≤ mix1 a b ∧ mix1 a b < 2147483647 := ⟨Int.emod_nonneg _ (by decide), Int.emod_lt_of_pos _ (by decide)⟩
    have m2 : 0 ≤ mix2 a b ∧ mix2 a b < 2147483629 := ⟨Int.emod_nonneg _ (by decide), Int.emod_lt_of_pos _ (by decide)⟩
    refine ⟨_, (pss_cons (ps_set (i := 3) sc_l_mixed.nd rfl (Or.inl rfl) (pe_op op_add (pe_op op_mul (pv 0) pe_int) (pe_op op_mul (pe_op op_mul pe_int (pv 1)) (pv 1))))
    (pss_cons (ps_set (i := 3) sc_l_mixed.nd rfl (Or.inl rfl) (pe_op op_mod (pe_callTy call_int1 (by rfl) Y.n_int (by decide +kernel) (pa_cons (pe_op op_add (pe_op op_add (pv 3) (pe_op op_mul pe_int (pv 2))) (pv 1)) pa_nil)) pe_int))
    (pss_cons (ps_set (i := 3) sc_l_mixed.nd rfl (Or.inl rfl) (pe_op op_mod (pe_callTy call_int1 (by rfl) Y.n_int (by decide +kernel) (pa_cons (pe_op op_add (pe_op op_mul (pv 3) (pv 3)) pe_int) pa_nil)) pe_int))
    (pss_one (ps_ret (pe_op op_mod (pe_callTy call_int1 (by rfl) Y.n_int (by decide +kernel) (pa_cons (pe_op op_mul (pv 3) pe_int) pa_nil)) pe_int)))))), ?_⟩
    refine ⟨_, rfl, _, _, rfl, rfl, .inr ⟨by decide, by decide⟩, _, rfl, _, _, rfl, rfl, .inl ⟨by decide, by decide⟩, _, rfl, _, _, rfl, rfl, .inr ⟨by omega, by omega⟩, _, _, rfl, rfl, ?_⟩
    refine ⟨_, rfl, _, rfl, _, _, rfl, rfl, .inl ⟨by decide, by decide⟩, _, _, rfl, rfl, _, rfl, _, _, rfl, rfl, .inl ⟨_, rfl, _, _, rfl, rfl, (by show (0 : Int) < 2147483647; decide), ?_⟩⟩
    refine ⟨_, rfl, _, rfl, _, _, rfl, rfl, .inl ?_, _, _, rfl, rfl, .inl ⟨_, rfl, _, _, rfl, rfl, (by show (0 : Int) < 2147483629; decide), ?_⟩⟩
    · show -(2 ^ 64) < mix1 a b ∧ mix1 a b < 2 ^ 64
      omega
    refine ⟨_, rfl, _, _, rfl, rfl, .inl ?_, .inl ⟨_, rfl, _, _, rfl, rfl, (by show (0 : Int) < 2147483587; decide), ?_⟩⟩
    · show -(2 ^ 64) < mix2 a b ∧ mix2 a b < 2 ^ 64
      omega
    exact k _ H .refl (.int _)
def dMany (ds : List PyData) : Prop := ∃ m : Int, ds = [.int m] ∧ 0 < m ∧ m < 100000000
def rDraw (ds : List PyData) (d : PyData) : Prop := ∃ m k : Int, ds = [.int m] ∧ d = .int k ∧ 0 ≤ k ∧ k < m
theorem bits27 {m : Int} (h : 0 < m) (h2 : m < 100000000) : ((Builtin.Int.intBits m : Nat) : Int) / 28 = 0 := by
  have q : Builtin.Int.intBits m < 28 := by
    have e : ¬ (m == 0) = true := fun z => by
      have := eq_of_beq z
      omega
    unfold Builtin.Int.intBits
    rw [if_neg e]
    have h3 : m.natAbs.log2 < 27 := (Nat.log2_lt (by omega)).mpr (by
      have : (2 : Nat) ^ 27 = 134217728 := by decide
      omega)
    omega
  omega
theorem c_l_draw (Y : Env K mg C) : Def P w K mg base (Str.ofString "_law_draw") 2 ["_law_purse_here", "_law_many"] (spP K 1 dMany rDraw) := by
  refine def_mk Y.t_l_draw sc_l_draw bb_l_draw (fun vs H Q E h => ?_) (fun f cdv A outer s H vs Q E hr h => ?_)
  · obtain ⟨S, p, m, rest, ds, rfl, hS, hp, hP, hm, h, ⟨n, rfl, _⟩, k⟩ := h
    exact congrArg Nat.succ (DpAll.length h)
  · obtain ⟨S, p, m, rest, ds, rfl, hS, hp, ⟨a, b, c, hP, ha, hb, hb2, hc, hc2⟩, hm, h, ⟨n, rfl, hn, hn2⟩, k⟩ := h
    obtain ⟨v, rfl, e1⟩ := da1 h
    obtain rfl := dp_int e1
    have hs : SqL K H p [.int a, .int b, .int c, .int 0] := .inl (.inl hP)
    refine ⟨_, (pss_cons (ps_if (pt_cmpR op_gt (pe_ix (K_ixL (K := K) rfl) (pv 0) pe_int (fun _ _ => rfl)) pe_int (nomark _)) (pss_cons (ps_set (i := 4) sc_l_draw.nd rfl (Or.inl rfl) (pe_op op_mod (pe_callTy call_int1 (by rfl) Y.n_int (by decide +kernel) (pa_cons (pe_ix (K_ixL (K := K) rfl) (pv 0) pe_int (fun _ _ => rfl)) pa_nil)) (pv 1)))
    (pss_cons (ps_asg (pe_op op_fdivW (pe_ix (K_ixL (K := K) rfl) (pv 0) pe_int (fun _ _ => rfl)) (pv 1)) (pg_sub (pv 0) pe_int set_list))
    (pss_one (ps_ret (pv 4))))) pss_nil)
    (pss_cons (ps_set (i := 2) sc_l_draw.nd rfl (Or.inl rfl) pe_int)
    (pss_cons (ps_for PassesOwn.never rfl (pi_range1 rfl Y.n_range (pa_cons (pe_op op_add pe_int (pe_op op_fdivW (pe_bits (pv 1)) pe_int)) pa_nil)) (pg_name (i := 3) sc_l_draw.nd rfl (Or.inl rfl))
    (pss_cons (ps_asg (pe_op op_add (pe_ix (K_ixL (K := K) rfl) (pv 0) pe_int (fun _ _ => rfl)) pe_int) (pg_sub (pv 0) pe_int set_list))
    (pss_one (ps_set (i := 2) sc_l_draw.nd rfl (Or.inl rfl) (pe_op op_add (pe_op op_mul (pv 2) pe_int) (pe_def (c_l_mixed Y) (hr.mono (by decide)) (pa_cons (pe_ix (K_ixL (K := K) rfl) (pv 0) pe_int (fun _ _ => rfl)) (pa_cons (pe_ix (K_ixL (K := K) rfl) (pv 0) pe_int (fun _ _ => rfl)) (pa_cons (pe_ix (K_ixL (K := K) rfl) (pv 0) pe_int (fun _ _ => rfl)) pa_nil)))))))))
    (pss_one (ps_ret (pe_op op_mod (pe_callTy call_int1 (by rfl) Y.n_int (by decide +kernel) (pa_cons (pv 2) pa_nil)) (pv 1))))))), ?_⟩
    refine ⟨_, rfl, p, _, _, _, rfl, rfl, hs, at0, _, _, rfl, rfl, _, rfl, ?_⟩
    refine ite2 (fun hpos => ?_) (fun hpos => ?_)
    · refine ⟨_, rfl, p, _, _, _, rfl, rfl, hs, at0, .inl ⟨_, rfl, _, rfl, _, _, rfl, rfl, hn, ?_⟩⟩
      refine ⟨_, rfl, p, _, _, _, rfl, rfl, hs, at0, _, rfl, _, _, rfl, rfl, wide_div (b := 30) hn (by omega) (by decide) (by decide), _, rfl, p, _, _, 0, rfl, rfl, hP, rfl, _, rfl, ?_⟩
      refine k _ _ (.int (a % n)) (kp_own (List.mem_singleton.mpr rfl)) ⟨a / n, b, c, upd_same, Int.ediv_nonneg ha (by omega), hb, hb2, hc, by omega⟩ ⟨n, _, rfl, rfl, Int.emod_nonneg _ (by omega), Int.emod_lt_of_pos _ hn⟩ (.int _)
    · have eb := bits27 hn hn2
      refine ⟨_, rfl, _, rfl, _, _, rfl, rfl, wide_div (b := 30) (i := ((Builtin.Int.intBits n : Nat) : Int)) (j := 28) (by decide) (by decide) (by decide) (by decide), _, _, rfl, rfl, 1 + ((Builtin.Int.intBits n : Nat) : Int) / 28, rfl, by omega, by omega, ?_⟩
      rw [show (1 + ((Builtin.Int.intBits n : Nat) : Int) / 28).toNat = 1 by omega]
      refine for_it walk_range (fun i σ H' => ∃ (found : Int) (o3 : Option L2.V), σ = [some (.ref p), some (.int n), some (.int found), o3, none] ∧ Kp [p] H H' ∧ (i = 0 → found = 0) ∧ H' p = some (.lst [.int a, .int b, .int (c + (i : Int)), .int 0]))
        ⟨0, none, rfl, .refl, fun _ => rfl, by rw [hP]; simp⟩ (fun _ _ _ _ _ => trivial) ?_ ?_
      · rintro i x σ H2 H3 hi ⟨found, o3, rfl, k2, h0, hp2⟩ ⟨rfl, rfl⟩
        have hi0 : i = 0 := by omega
        subst hi0
        obtain rfl := h0 rfl
        have hs2 : SqL K H3 p [.int a, .int b, .int (c + ((0 : Nat) : Int)), .int 0] := .inl (.inl hp2)
        refine ⟨_, rfl, p, _, _, _, rfl, rfl, hs2, at2, _, _, rfl, rfl, _, rfl, p, _, _, 2, rfl, rfl, hp2, rfl, ?_⟩
        have hp4 : (upd H3 p (.lst ([L2.V.int a, .int b, .int (c + ((0 : Nat) : Int)), .int 0].set 2 (.int (c + ((0 : Nat) : Int) + 1))))) p = some (.lst [.int a, .int b, .int (c + ((0 : Nat) : Int) + 1), .int 0]) := upd_same
        have k4 : Kp [p] H (upd H3 p (.lst ([L2.V.int a, .int b, .int (c + ((0 : Nat) : Int)), .int 0].set 2 (.int (c + ((0 : Nat) : Int) + 1))))) := k2.own (List.mem_singleton.mpr rfl)
        generalize (upd H3 p (.lst ([L2.V.int a, .int b, .int (c + ((0 : Nat) : Int)), .int 0].set 2 (.int (c + ((0 : Nat) : Int) + 1))))) = H4 at hp4 k4 ⊢
        have hs4 : SqL K H4 p [.int a, .int b, .int (c + ((0 : Nat) : Int) + 1), .int 0] := .inl (.inl hp4)
        have at3 : atI [L2.V.int a, .int b, .int (c + ((0 : Nat) : Int) + 1), .int 0] 3 = some (.int 0) := atI_nat (j := 3) rfl
        refine ⟨_, rfl, _, _, rfl, rfl, .inr ⟨by decide, by decide⟩, _, rfl, p, _, _, _, rfl, rfl, hs4, at1, _, rfl, p, _, _, _, rfl, rfl, hs4, at2, _, rfl, p, _, _, _, rfl, rfl, hs4, at3, ?_⟩
        refine ⟨S, [.int b, .int (c + ((0 : Nat) : Int) + 1), .int 0], _, k4.live hS, .cons (.int _) (.cons (.int _) (.cons (.int _) .nil)), ⟨b, _, rfl, hb, hb2, by omega, by omega, rfl⟩, fun v H5 k5 hv => ?_⟩
        obtain rfl := dp_int hv
        refine ⟨_, _, rfl, rfl, _, _, rfl, k4.trans k5.nil, fun h => absurd h (by omega), ?_⟩
        have q := k5.same _ _ hp4
        rw [q]
        simp
      · rintro σ H2 ⟨found, o3, rfl, k2, h0, hp2⟩
        refine ⟨_, rfl, .inl ⟨_, rfl, _, rfl, _, _, rfl, rfl, hn, ?_⟩⟩
        exact k _ _ (.int (found % n)) k2 ⟨a, b, c + ((1 : Nat) : Int), hp2, ha, hb, hb2, by omega, by omega⟩ ⟨n, _, rfl, rfl, Int.emod_nonneg _ (by omega), Int.emod_lt_of_pos _ hn⟩ (.int _)
def spPurses (K : PySem.W.Frag) : Sp := fun vs H Q _ => ∃ (a : Addr) (ns : List Int), vs = [.ref a, .int 1] ∧ SqL K H a (ns.map L2.V.int) ∧ ∀ l p H', Kp [] H H' → H l = none → H' l = some (.lst [.ref p]) → H p = none → Purse H' p 0 → Q (.ref l) H'
theorem c_l_purses (Y : Env K mg C) : Def P w K mg base (Str.ofString "_law_purses") 2 ["_law_script", "_law_few"] (spPurses K) := by
  refine def_mk Y.t_l_purses sc_l_purses bb_l_purses (fun vs H Q E h => ?_) (fun f cdv A outer s H vs Q E hr h => ?_)
  · obtain ⟨a, ns, rfl, _⟩ := h
    rfl
  · obtain ⟨a, ns, rfl, hs, k⟩ := h
    refine ⟨_, (pss_one (ps_ret (pe_lc (own := [("_law_at", 2)]) rfl sc_l_purses.nd (pi_range1 rfl Y.n_range (pa_cons (pe_callB (call_max2 rfl) (by rfl) Y.n_max (by decide +kernel) (pa_cons pe_int (pa_cons (pe_callB (call_min2 rfl) (by rfl) Y.n_min (by decide +kernel) (pa_cons (pv 1) (pa_cons (pe_callB (K_len (K := K) rfl) (by rfl) Y.n_len (by decide +kernel) (pa_cons (pv 0) pa_nil)) pa_nil))) pa_nil))) pa_nil)) (blkOk_by (own := [("_law_at", 2)]) (N := ["_law_script", "_law_few", "_law_at"]) (sc := defScope s_l_purses) (by decide +kernel)) (fun _ _ _ _ _ => (pg_name (i := 2) sc_l_purses.nd rfl (Or.inl rfl))) (fun _ _ _ _ _ => pts_nil) (fun _ _ _ _ _ => (pe_def (c_l_purse Y) (hr.mono (by decide)) (pa_cons (pv 0) (pa_cons (pv 2) pa_nil))))))), ?_⟩
    refine ⟨_, rfl, _, rfl, a, _, rfl, .inl hs, _, _, rfl, _, _, rfl, (if (if (((ns.map L2.V.int).length : Nat) : Int) < 1 then (((ns.map L2.V.int).length : Nat) : Int) else 1) > 1 then (if (((ns.map L2.V.int).length : Nat) : Int) < 1 then (((ns.map L2.V.int).length : Nat) : Int) else 1) else 1), rfl, ?_, ?_, fun D hD => ?_⟩
    · split <;> split <;> omega
    · split <;> split <;> omega
    have e1 : (if (if (((ns.map L2.V.int).length : Nat) : Int) < 1 then (((ns.map L2.V.int).length : Nat) : Int) else 1) > 1 then (if (((ns.map L2.V.int).length : Nat) : Int) < 1 then (((ns.map L2.V.int).length : Nat) : Int) else 1) else 1) = 1 := by
      split <;> split at * <;> omega
    rw [e1]
    refine lc_it (n := 1) walk_range (fun i H' => Kp [] H H' ∧ ((i = 0 ∧ H' D = some (.lst [])) ∨ i = 1 ∧ ∃ p, H' D = some (.lst [.ref p]) ∧ H p = none ∧ p ≠ D ∧ Purse H' p 0)) ⟨kp_new hD, .inl ⟨rfl, upd_same⟩⟩ (fun _ _ _ _ => trivial) ?_ ?_
    · rintro i x H2 H3 hi ⟨k2, h⟩ ⟨rfl, rfl⟩
      have hi0 : i = 0 := by omega
      subst hi0
      have hl : H3 D = some (.lst []) := by
        rcases h with h | ⟨h, _⟩
        · exact h.2
        · exact absurd h (by decide)
      refine ⟨rfl, _, rfl, _, rfl, a, ns, rfl, k2.same.seq hs, fun p H4 k4 np hp => ?_⟩
      have e := k4.same _ _ hl
      have hpD : p ≠ D := (ne_of_none hl np).symm
      refine ⟨[], e, by show 0 < sizeLine; decide, (k2.trans k4).put hD, .inr ⟨rfl, p, upd_same, k2.free np, hpD, hp.upd hpD⟩⟩
    · rintro H2 ⟨k2, h⟩
      rcases h with h | ⟨_, p, h, n1, n2, n3⟩
      · exact absurd h.1 (by decide)
      · exact k D p H2 k2 hD h n1 n3
def dSome (ds : List PyData) : Prop := ∃ es : List PyData, ds = [.list es] ∧ 0 < es.length ∧ es.length ≤ 1000
def rOne (ds : List PyData) (d : PyData) : Prop := ∃ es : List PyData, ds = [.list es] ∧ d ∈ es
theorem c_l_one_of (Y : Env K mg C) : Def P w K mg base (Str.ofString "_law_one_of") 3 ["_law_purse_here", "_law_some"] (spP K 1 dSome rOne) := by
  refine def_mk Y.t_l_one_of sc_l_one_of bb_l_one_of (fun vs H Q E h => ?_) (fun f cdv A outer s H vs Q E hr h => ?_)
  · obtain ⟨S, p, m, rest, ds, rfl, hS, hp, hP, hm, h, ⟨n, rfl, _⟩, k⟩ := h
    exact congrArg Nat.succ (DpAll.length h)
  · obtain ⟨S, p, m, rest, ds, rfl, hS, hp, hP, hm, h, ⟨es, rfl, hn, hn2⟩, k⟩ := h
    obtain ⟨v, rfl, e1⟩ := da1 h
    obtain ⟨a, xs, rfl, hl, hda⟩ := dp_list e1
    have hlen : xs.length = es.length := DpAll.length hda
    refine ⟨_, (pss_one (ps_ret (pe_ix (K_ixL (K := K) rfl) (pv 1) (pe_def (c_l_draw Y) (hr.mono (by decide)) (pa_cons (pv 0) (pa_cons (pe_callB (K_len (K := K) rfl) (by rfl) Y.n_len (by decide +kernel) (pa_cons (pv 1) pa_nil)) pa_nil))) (fun _ _ => rfl)))), ?_⟩
    refine ⟨_, rfl, _, rfl, _, rfl, a, _, rfl, .inl (hid_le.seq hl), S, p, m, _, [.int (xs.length : Int)], rfl, hS, hp, hP, hm, .cons (.int _) .nil, ⟨_, rfl, by omega, by omega⟩, fun v H1 d k1 hP1 ⟨n, i, e, ed, hi0, hi1⟩ hv => ?_⟩
    subst ed
    obtain rfl := dp_int hv
    have en : (xs.length : Int) = n := by
      have q := (List.cons.inj e).1
      injection q
    obtain ⟨j, rfl⟩ := Int.eq_ofNat_of_zero_le hi0
    have hj : j < xs.length := by omega
    obtain ⟨d, hd, hdp⟩ := DpAll.get hda (List.getElem?_eq_getElem hj)
    have sm : Same (hid S H) (hid S H1) := k1.hid fun b hb => by rw [List.mem_singleton.mp hb]; exact hp
    refine ⟨a, xs, (j : Int), xs[j], rfl, rfl, hid_le.seq (sm.seq hl), atI_nat (List.getElem?_eq_getElem hj), ?_⟩
    exact k _ _ d k1 hP1 ⟨es, rfl, List.mem_of_getElem? hd⟩ (Dp.mono sm hdp)
def dFew (ds : List PyData) : Prop := ∃ es : List PyData, ds = [.list es] ∧ es.length ≤ 300
def rShuf (ds : List PyData) (d : PyData) : Prop := ∃ es fs : List PyData, ds = [.list es] ∧ d = .list fs ∧ ∀ f ∈ fs, f ∈ es
theorem da_take {H : Hp} : ∀ {xs : List L2.V} {ds : List PyData} (n : Nat), DpAll K H xs ds → DpAll K H (xs.take n) (ds.take n)
  | _, _, 0, _ => .nil
  | _, _, n + 1, .nil => .nil
  | _, _, n + 1, .cons h t => .cons h (da_take n t)
theorem da_drop {H : Hp} : ∀ {xs : List L2.V} {ds : List PyData} (n : Nat), DpAll K H xs ds → DpAll K H (xs.drop n) (ds.drop n)
  | _, _, 0, h => h
  | _, _, n + 1, .nil => .nil
  | _, _, n + 1, .cons h t => da_drop n t
theorem c_l_shuffled (Y : Env K mg C) : Def P w K mg base (Str.ofString "_law_shuffled") 3 ["_law_purse_here", "_law_some"] (spP K 300 dFew rShuf) := by
  refine def_mk Y.t_l_shuffled sc_l_shuffled bb_l_shuffled (fun vs H Q E h => ?_) (fun f cdv A outer s H vs Q E hr h => ?_)
  · obtain ⟨S, p, m, rest, ds, rfl, hS, hp, hP, hm, h, ⟨n, rfl, _⟩, k⟩ := h
    exact congrArg Nat.succ (DpAll.length h)
  · obtain ⟨S, p, m, rest, ds, rfl, hS, hp, hP, hm, h, ⟨es, rfl, hn⟩, k⟩ := h
    obtain ⟨v, rfl, e1⟩ := da1 h
    obtain ⟨a, xs, rfl, hl, hda⟩ := dp_list e1
    have hlen : xs.length = es.length := DpAll.length hda
    refine ⟨_, (pss_cons (ps_set (i := 2) sc_l_shuffled.nd rfl (Or.inl rfl) (pe_lst pa_nil))
    (pss_cons (ps_for PassesOwn.never rfl (K_pil (K := K) rfl (pv 1)) (pg_name (i := 3) sc_l_shuffled.nd rfl (Or.inl rfl))
    (pss_one (ps_expr (K_bm (K := K) rfl PySem.F.plainAttrs_list PySem.F.slot_list_insert PySem.F.type_list_insert mt_insert (pv 2) (pa_cons (pe_def (c_l_draw Y) (hr.mono (by decide)) (pa_cons (pv 0) (pa_cons (pe_op op_add (pe_callB (K_len (K := K) rfl) (by rfl) Y.n_len (by decide +kernel) (pa_cons (pv 2) pa_nil)) pe_int) pa_nil))) (pa_cons (pv 3) pa_nil))))))
    (pss_one (ps_ret (pv 2))))), ?_⟩
    refine ⟨Nat.zero_le _, fun l nl => ?_⟩
    have hlS : l ∉ S := not_mem_of hS nl
    have hlp : p ≠ l := fun e => hlS (e ▸ hp)
    have e0 : hid (l :: S) (upd H l (.lst [])) = hid S H := by rw [hid_in (List.mem_cons_self ..), hid_cons nl]
    have pin : ∀ b ∈ [p], b ∈ S := fun b hb => by rw [List.mem_singleton.mp hb]; exact hp
    refine ⟨_, rfl, a, rfl, ⟨_, (same_new nl).seq (hid_le.seq hl)⟩, ?_⟩
    refine for_it walk_list (fun i σ H' => ∃ (o3 : Option L2.V) (acc : List L2.V) (fs : List PyData), σ = [some (.ref p), some (.ref a), some (.ref l), o3] ∧ Kp [p] H H' ∧ Purse H' p (m + i) ∧ H' l = some (.lst acc) ∧ acc.length ≤ i ∧ DpAll K (hid (l :: S) H') acc fs ∧ ∀ f ∈ fs, f ∈ es)
      ⟨none, [], [], rfl, kp_new nl, hP.upd hlp, upd_same, Nat.le_refl _, .nil, by simp⟩ (fun i σ H' _ ⟨_, _, _, _, k2, _⟩ => hid_le.seq ((k2.hid pin).seq hl)) ?_ ?_
    · rintro i x σ H2 H3 hi ⟨o3, acc, fs, rfl, k2, hP2, ha, hle, hfs, hsub⟩ ⟨rfl, hx⟩
      have hlv : Live (l :: S) H3 := (k2.live hS).cons ha
      refine ⟨_, rfl, .inl ⟨rfl, _, .inl (.inl ha)⟩, _, rfl, _, rfl, l, _, rfl, .inl (.inl (.inl ha)), _, _, rfl, rfl, ?_⟩
      refine ⟨l :: S, p, m + i, _, [.int ((acc.length : Nat) + 1 : Int)], rfl, hlv, List.mem_cons_of_mem _ hp, hP2, by omega, .cons (.int _) .nil, ⟨_, rfl, by omega, by omega⟩, fun v H4 d k4 hP4 ⟨n, j, e, ed, hj0, hj1⟩ hv => ?_⟩
      subst ed
      obtain rfl := dp_int hv
      have ha4 : H4 l = some (.lst acc) := k4.at (by simpa using hlp.symm) ha
      have s4 : Same (hid (l :: S) H3) (hid (l :: S) H4) := k4.hid fun b hb => List.mem_cons_of_mem _ (pin b hb)
      obtain ⟨f, hf, hfd⟩ := DpAll.get hda hx
      have sF : Same (hid S H) (hid (l :: S) H4) := by
        have q := (k2.trans k4).hid (S := l :: S) fun b hb => List.mem_cons_of_mem _ (pin b hb)
        rwa [hid_cons nl] at q
      have hen : n = (acc.length : Int) + 1 := by
        have q := (List.cons.inj e).1
        injection q with q
        exact q.symm
      refine ⟨_, rfl, l, acc, j, x, rfl, rfl, ha4, by rw [sizeLine_eq]; omega, hj0, by omega, ?_⟩
      refine ⟨_, _, fs.take j.toNat ++ [f] ++ fs.drop j.toNat, rfl, (k2.trans k4).put nl, hP4.upd hlp, upd_same, ?_, ?_, fun g hg => ?_⟩
      · rw [List.length_append, List.length_append, List.length_take, List.length_drop, List.length_singleton]
        omega
      · rw [hid_in (List.mem_cons_self ..)]
        exact DpAll.append (DpAll.append (da_take _ (DpAll.mono s4 hfs)) (.cons (Dp.mono sF hfd) .nil)) (da_drop _ (DpAll.mono s4 hfs))
      · rcases List.mem_append.mp hg with hg | hg
        · rcases List.mem_append.mp hg with hg | hg
          · exact hsub g (List.mem_of_mem_take hg)
          · rw [List.mem_singleton.mp hg]
            exact List.mem_of_getElem? hf
        · exact hsub g (List.mem_of_mem_drop hg)
    · rintro σ H2 ⟨o3, acc, fs, rfl, k2, hP2, ha, hle, hfs, hsub⟩
      exact ⟨_, rfl, k _ _ (.list fs) k2 (hP2.mono (by omega)) ⟨es, fs, rfl, rfl, hsub⟩ (.lst (.inl (.inl (hid_at ha hlS))) (DpAll.mono hid_tail hfs))⟩
end
end K41
namespace K41
open PySem PySem.Spec PyProof.Rows L2 PySem.W
section
variable {P : Program} {w : World} {K : PySem.W.Frag} {mg : Str → Option Value} {base : Heap} {C : Addr}
theorem walkDT {α : Type} {G0 : Hp} {a : Addr} {xs : List L2.V} {items : List α} {f : α → PyData} (da : DpAll K G0 xs (items.map f)) : Walk (Itt K a) items.length (fun H => SqT K H a xs) (fun i H x H' => H' = H ∧ ∀ it, items[i]? = some it → Dp K G0 x (f it)) := by
  rw [← da_len da]
  exact walk_tup.mono (fun _ h => h) (fun i H x H' _ _ y => ⟨y.1, fun it hit => (yat_item da hit y).2⟩)
theorem def_zero {x : String} {st : Stmt} {ps : List Str} {sp : Sp} (T : Top1 K mg x st) (hb : BindsBy st (Str.ofString x) ps) (h : ∀ vs H Q E, ¬ sp vs H Q E) : Def P w K mg base (Str.ofString x) 0 ps sp := by
  obtain ⟨f, fd, F, hm⟩ := T.ex
  exact ⟨f, fd, ⟨fun vs H Q E q => absurd q (h vs H Q E), fun _ _ _ H _ _ vs Q E _ _ _ _ q => absurd q (h vs H Q E)⟩, hm, F.kp, F.binds hb⟩
theorem dep_mem : ∀ {ds : List PyData} {d : PyData}, d ∈ ds → d.depth ≤ PyData.depthAll ds
  | x :: ds, d, h => by
    rw [PyData.depthAll]
    rcases List.mem_cons.mp h with rfl | h
    · omega
    · have := dep_mem h
      omega
theorem dep_list {ds : List PyData} : (PyData.list ds).depth = PyData.depthAll ds + 1 := by rw [PyData.depth]
theorem dep_tuple {ds : List PyData} : (PyData.tuple ds).depth = PyData.depthAll ds + 1 := by rw [PyData.depth]
mutual
/-- no list of it is long -/
def slim : PyData → Bool
  | .list xs => decide (xs.length ≤ 1000) && slimAll xs
  | .tuple xs => decide (xs.length ≤ 1000) && slimAll xs
  | _ => true
def slimAll : List PyData → Bool
  | [] => true
  | x :: xs => slim x && slimAll xs
end
theorem slimAll_iff : ∀ {xs : List PyData}, slimAll xs = true ↔ ∀ x ∈ xs, slim x = true
  | [] => by simp [slimAll]
  | x :: xs => by
    rw [slimAll, Bool.and_eq_true, slimAll_iff]
    constructor
    · rintro ⟨h1, h2⟩ y hy
      rcases List.mem_cons.mp hy with rfl | hy
      · exact h1
      · exact h2 y hy
    · exact fun h => ⟨h x (List.mem_cons_self ..), fun y hy => h y (List.mem_cons_of_mem _ hy)⟩
theorem slim_list {xs : List PyData} : slim (.list xs) = true ↔ xs.length ≤ 1000 ∧ ∀ x ∈ xs, slim x = true := by
  rw [slim, Bool.and_eq_true, decide_eq_true_eq, slimAll_iff]
theorem slim_tuple {xs : List PyData} : slim (.tuple xs) = true ↔ xs.length ≤ 1000 ∧ ∀ x ∈ xs, slim x = true := by
  rw [slim, Bool.and_eq_true, decide_eq_true_eq, slimAll_iff]
theorem slim_words {ws : List Str} (h : ws.length ≤ 1000) : slim (eW ws) = true := slim_list.mpr ⟨by rw [List.length_map]; exact h, fun x hx => by
  obtain ⟨w, _, rfl⟩ := List.mem_map.mp hx
  simp [slim]⟩
theorem no_dict {G : Hp} {v : L2.V} {d : PyData} (h : Dp K G v d) : isS "dict" (tyN d) = false := by
  have q : ∀ t ∈ ["NoneType", "bool", "int", "str", "list", "tuple"], isS "dict" t = false := by decide
  refine q _ ?_
  cases h <;> simp [tyN]
/-- an empty dict that is never written again -/
def Emp (G : Hp) (v : L2.V) : Prop := ∃ a o, v = .ref a ∧ G a = some (.frz o (.dK []))
def spSame (K : PySem.W.Frag) (n : Nat) : Sp := fun vs H Q _ =>
  (∃ (S : List Addr) (v : L2.V) (d : PyData), vs = [v] ∧ Live S H ∧ Dp K (hid S H) v d ∧ d.depth < n ∧ slim d = true ∧ ∀ v' H', Kp [] H H' → Dp K (hid S H') v' d → Q v' H') ∨
  (∃ v : L2.V, vs = [v] ∧ Emp H v ∧ 0 < n ∧ ∀ a H', Kp [] H H' → H a = none → H' a = some (.dK []) → Q (.ref a) H')
theorem c_l_same (Y : Env K mg C) : ∀ n, Def P w K mg base (Str.ofString "_law_same") n ["_law_thing"] (spSame K n)
  | 0 => def_zero Y.t_l_same bb_l_same fun vs H Q E h => by
    rcases h with ⟨S, v, d, _, _, _, h, _⟩ | ⟨v, _, _, h, _⟩
    · exact absurd h (Nat.not_lt_zero _)
    · exact absurd h (Nat.lt_irrefl _)
  | n + 1 => by
    have ih := c_l_same Y n
    refine def_mk Y.t_l_same sc_l_same bb_l_same (fun vs H Q E h => ?_) (fun f cdv A outer s H vs Q E hr h => ?_)
    · rcases h with ⟨S, v, d, rfl, _⟩ | ⟨v, rfl, _⟩ <;> rfl
    · rcases h with ⟨S, v, d, rfl, hS, hd, hn, hsl, k⟩ | ⟨v, rfl, ⟨a, o, rfl, ha⟩, hn, k⟩
      · refine ⟨_, (pss_cons (ps_if (pt_val (pe_callB (K_isi (K := K) rfl) (by rfl) Y.n_isinstance (by decide +kernel) (pa_cons (pv 0) (pa_cons (pe_bltn (u := .type "dict") (v := .ty "dict") rfl Y.n_dict (by decide +kernel) rfl) pa_nil)))) (pss_one (ps_ret (pe_callTy (K_dict (K := K) rfl rfl) (by rfl) Y.n_dict (by decide +kernel) (pa_cons (pe_lc (own := [("_law_key", 2)]) rfl sc_l_same.nd (pi_keys (pv 0)) (blkOk_by (own := [("_law_key", 2)]) (N := ["_law_thing", "_law_item", "_law_key"]) (sc := defScope s_l_same) (by decide +kernel)) (fun _ _ _ _ _ => (pg_name (i := 2) sc_l_same.nd rfl (Or.inl rfl))) (fun _ _ _ _ _ => pts_nil) (fun _ _ _ _ _ => (pe_tup (pa_cons (pv 2) (pa_cons (pe_def ih hr (pa_cons (pe_dget (hu_of hr) (pv 0) (pv 2) (fun _ _ => rfl)) pa_nil)) pa_nil))))) pa_nil)))) pss_nil)
    (pss_cons (ps_if (pt_val (pe_callB (K_isi (K := K) rfl) (by rfl) Y.n_isinstance (by decide +kernel) (pa_cons (pv 0) (pa_cons (pe_bltn (u := .type "list") (v := .ty "list") rfl Y.n_list (by decide +kernel) rfl) pa_nil)))) (pss_one (ps_ret (pe_lc (own := [("_law_item", 1)]) rfl sc_l_same.nd (K_pil (K := K) rfl (pv 0)) (blkOk_by (own := [("_law_item", 1)]) (N := ["_law_thing", "_law_item", "_law_key"]) (sc := defScope s_l_same) (by decide +kernel)) (fun _ _ _ _ _ => (pg_name (i := 1) sc_l_same.nd rfl (Or.inl rfl))) (fun _ _ _ _ _ => pts_nil) (fun _ _ _ _ _ => (pe_def ih hr (pa_cons (pv 1) pa_nil)))))) pss_nil)
    (pss_one (ps_ret (pe_ifExp (pt_val (pe_callB (K_isi (K := K) rfl) (by rfl) Y.n_isinstance (by decide +kernel) (pa_cons (pv 0) (pa_cons (pe_bltn (u := .type "tuple") (v := .ty "tuple") rfl Y.n_tuple (by decide +kernel) rfl) pa_nil)))) (pe_callTy (K_tuple (K := K) rfl) (by rfl) Y.n_tuple (by decide +kernel) (pa_cons (pe_lc (own := [("_law_item", 1)]) rfl sc_l_same.nd (K_pit (K := K) rfl (pv 0)) (blkOk_by (own := [("_law_item", 1)]) (N := ["_law_thing", "_law_item", "_law_key"]) (sc := defScope s_l_same) (by decide +kernel)) (fun _ _ _ _ _ => (pg_name (i := 1) sc_l_same.nd rfl (Or.inl rfl))) (fun _ _ _ _ _ => pts_nil) (fun _ _ _ _ _ => (pe_def ih hr (pa_cons (pv 1) pa_nil)))) pa_nil)) (pv 0)))))), ?_⟩
        obtain ⟨t1, a1, b1⟩ := isi_dp (Dp.mono hid_le hd) (T := "dict") (by simp)
        obtain ⟨t2, a2, b2⟩ := isi_dp (Dp.mono hid_le hd) (T := "list") (by simp)
        obtain ⟨t3, a3, b3⟩ := isi_dp (Dp.mono hid_le hd) (T := "tuple") (by simp)
        refine ⟨_, rfl, _, _, _, _, _, rfl, .ty "dict", a1, b1, _, rfl, if_no (no_dict hd) ?_⟩
        refine ⟨_, rfl, _, _, _, _, _, rfl, .ty "list", a2, b2, _, rfl, ?_⟩
        cases hd with
        | @lst a xs es hl hda =>
          refine if_yes (by decide : isS "list" "list" = true) ?_
          have hl0 : SqL K H a xs := hid_le.seq hl
          rw [dep_list] at hn
          refine ⟨_, rfl, a, rfl, ⟨_, hl0⟩, fun D hD => ?_⟩
          obtain ⟨hz, hsl2⟩ := slim_list.mp hsl
          refine lcS (K := K) (items := es) (S := S) (walkD (f := id) (by rw [List.map_id]; exact hda)) id hD hS (by omega) (fun H' kp => kp.same.seq hl0) ?_ ?_
          · rintro i x x1 Ha Hb Yes hi kp hL ⟨rfl, y⟩ yes
            have m : Same (hid S H) (hid (D :: S) Hb) := by
              rw [← hid_cons hD]
              exact kp.hid0
            exact ⟨rfl, _, rfl, .inl ⟨D :: S, _, x, rfl, hL, Dp.mono m (y x hi), by have := dep_mem (List.mem_of_getElem? hi); omega, hsl2 x (List.mem_of_getElem? hi), fun v' H' kp' hv => yes v' H' kp' hv⟩⟩
          · intro H2 ys kp hL hl hle da dp
            rw [List.map_id] at dp
            exact k _ H2 kp dp
        | @tup a xs es hl hda =>
          refine if_no (by decide : isS "list" "tuple" = false) ?_
          refine ⟨_, rfl, _, _, _, _, _, rfl, .ty "tuple", a3, b3, _, rfl, if_yes (by decide : isS "tuple" "tuple" = true) ?_⟩
          have hl0 : SqT K H a xs := Same.tup hid_le hl
          rw [dep_tuple] at hn
          refine ⟨_, rfl, a, rfl, ⟨_, hl0⟩, fun D hD => ?_⟩
          obtain ⟨hz, hsl2⟩ := slim_tuple.mp hsl
          refine lcS (K := K) (items := es) (S := S) (walkDT (f := id) (by rw [List.map_id]; exact hda)) id hD hS (by omega) (fun H' kp => Same.tup kp.same hl0) ?_ ?_
          · rintro i x x1 Ha Hb Yes hi kp hL ⟨rfl, y⟩ yes
            have m : Same (hid S H) (hid (D :: S) Hb) := by
              rw [← hid_cons hD]
              exact kp.hid0
            exact ⟨rfl, _, rfl, .inl ⟨D :: S, _, x, rfl, hL, Dp.mono m (y x hi), by have := dep_mem (List.mem_of_getElem? hi); omega, hsl2 x (List.mem_of_getElem? hi), fun v' H' kp' hv => yes v' H' kp' hv⟩⟩
          · intro H2 ys kp hL hl hle da dp
            rw [List.map_id] at da
            refine ⟨D, _, rfl, .inl ⟨.inl (.inl hl), fun p np => ?_⟩⟩
            exact k _ _ (kp.new np) (.tup (.inl (.inl (hid_at upd_same (not_mem_of hL np)))) (DpAll.mono (hid_tail.trans (kp_new np).hid0) da))
        | non =>
          refine if_no (by decide : isS "list" "NoneType" = false) ?_
          refine ⟨_, rfl, _, _, _, _, _, rfl, .ty "tuple", a3, b3, _, rfl, if_no (by decide : isS "tuple" "NoneType" = false) ?_⟩
          exact ⟨_, rfl, k _ H .refl .non⟩
        | bl x =>
          refine if_no (by decide : isS "list" "bool" = false) ?_
          refine ⟨_, rfl, _, _, _, _, _, rfl, .ty "tuple", a3, b3, _, rfl, if_no (by decide : isS "tuple" "bool" = false) ?_⟩
          exact ⟨_, rfl, k _ H .refl (.bl x)⟩
        | int x =>
          refine if_no (by decide : isS "list" "int" = false) ?_
          refine ⟨_, rfl, _, _, _, _, _, rfl, .ty "tuple", a3, b3, _, rfl, if_no (by decide : isS "tuple" "int" = false) ?_⟩
          exact ⟨_, rfl, k _ H .refl (.int x)⟩
        | str x =>
          refine if_no (by decide : isS "list" "str" = false) ?_
          refine ⟨_, rfl, _, _, _, _, _, rfl, .ty "tuple", a3, b3, _, rfl, if_no (by decide : isS "tuple" "str" = false) ?_⟩
          exact ⟨_, rfl, k _ H .refl (.str x)⟩
      · refine ⟨_, (pss_cons (ps_if (pt_val (pe_callB (K_isi (K := K) rfl) (by rfl) Y.n_isinstance (by decide +kernel) (pa_cons (pv 0) (pa_cons (pe_bltn (u := .type "dict") (v := .ty "dict") rfl Y.n_dict (by decide +kernel) rfl) pa_nil)))) (pss_one (ps_ret (pe_callTy (K_dict (K := K) rfl rfl) (by rfl) Y.n_dict (by decide +kernel) (pa_cons (pe_lc (own := [("_law_key", 2)]) rfl sc_l_same.nd (pi_keys (pv 0)) (blkOk_by (own := [("_law_key", 2)]) (N := ["_law_thing", "_law_item", "_law_key"]) (sc := defScope s_l_same) (by decide +kernel)) (fun _ _ _ _ _ => (pg_name (i := 2) sc_l_same.nd rfl (Or.inl rfl))) (fun _ _ _ _ _ => pts_nil) (fun _ _ _ _ _ => (pe_tup (pa_cons (pv 2) (pa_cons (pe_def ih hr (pa_cons (pe_dget (hu_of hr) (pv 0) (pv 2) (fun _ _ => rfl)) pa_nil)) pa_nil))))) pa_nil)))) pss_nil)
    (pss_cons (ps_if (pt_val (pe_callB (K_isi (K := K) rfl) (by rfl) Y.n_isinstance (by decide +kernel) (pa_cons (pv 0) (pa_cons (pe_bltn (u := .type "list") (v := .ty "list") rfl Y.n_list (by decide +kernel) rfl) pa_nil)))) (pss_one (ps_ret (pe_lc (own := [("_law_item", 1)]) rfl sc_l_same.nd (K_pil (K := K) rfl (pv 0)) (blkOk_by (own := [("_law_item", 1)]) (N := ["_law_thing", "_law_item", "_law_key"]) (sc := defScope s_l_same) (by decide +kernel)) (fun _ _ _ _ _ => (pg_name (i := 1) sc_l_same.nd rfl (Or.inl rfl))) (fun _ _ _ _ _ => pts_nil) (fun _ _ _ _ _ => (pe_def ih hr (pa_cons (pv 1) pa_nil)))))) pss_nil)
    (pss_one (ps_ret (pe_ifExp (pt_val (pe_callB (K_isi (K := K) rfl) (by rfl) Y.n_isinstance (by decide +kernel) (pa_cons (pv 0) (pa_cons (pe_bltn (u := .type "tuple") (v := .ty "tuple") rfl Y.n_tuple (by decide +kernel) rfl) pa_nil)))) (pe_callTy (K_tuple (K := K) rfl) (by rfl) Y.n_tuple (by decide +kernel) (pa_cons (pe_lc (own := [("_law_item", 1)]) rfl sc_l_same.nd (K_pit (K := K) rfl (pv 0)) (blkOk_by (own := [("_law_item", 1)]) (N := ["_law_thing", "_law_item", "_law_key"]) (sc := defScope s_l_same) (by decide +kernel)) (fun _ _ _ _ _ => (pg_name (i := 1) sc_l_same.nd rfl (Or.inl rfl))) (fun _ _ _ _ _ => pts_nil) (fun _ _ _ _ _ => (pe_def ih hr (pa_cons (pv 1) pa_nil)))) pa_nil)) (pv 0)))))), ?_⟩
        refine ⟨_, rfl, _, _, _, _, true, rfl, .ty "dict", .fDict ha, kit_ty (by decide +kernel), true, rfl, iteT ?_⟩
        refine ⟨_, rfl, a, o, rfl, .inl ⟨[], ha, fun D hD => ?_⟩⟩
        refine lc_it (walk_keys (kvs := [])) (fun i H' => Kp [] H H' ∧ H' D = some (.lst [])) ⟨kp_new hD, upd_same⟩ (fun i H' _ ⟨kp, _⟩ => kp.same _ _ ha) (fun i x H1 H2 hi => absurd hi (Nat.not_lt_zero _)) ?_
        rintro H1 ⟨kp, h1⟩
        exact ⟨D, [], [], rfl, .inl (.inl h1), .nil, fun p np => k p _ (kp.new np) (kp.free np) upd_same⟩
end
end K41
namespace K41
open PySem PySem.Spec PyProof.Rows L2 PySem.W
def tys : List String := ["NoneType", "bool", "int", "str", "list", "tuple", "dict"]
theorem kit_all7 : ∀ t ∈ tys, ∀ T ∈ ["list", "tuple", "dict", "int", "bool", "str"], kitB t T = some (isS T t) := by decide +kernel
theorem isi7 {K : PySem.W.Frag} {t T : String} (h : t ∈ tys) (hT : T ∈ ["list", "tuple", "dict", "int", "bool", "str"]) : PySem.W.kitOne K (.type t) (.type T) = some (isS T t) := kit_ty (kit_all7 t h T hT)
theorem any2 {K : PySem.W.Frag} {t : String} (h : t ∈ tys) : PySem.W.kitAny K (.type t) [.type "list", .type "tuple"] = some (isS "list" t || isS "tuple" t) := by
  refine kitAny_cons (isi7 h (by simp)) (fun e => ?_) (fun e => by rw [e]; rfl)
  refine kitAny_cons (isi7 h (by simp)) (fun e2 => ?_) (fun e2 => by rw [e2, Bool.or_true])
  rw [e, e2]
  rfl
theorem ty_dp {K : PySem.W.Frag} {G : Hp} {v : V} {d : PyData} (h : Dp K G v d) : tyN d ∈ tys := by cases h <;> simp [tyN, tys]
theorem alike_no : ∀ tx ∈ ["list", "tuple"], ∀ ty ∈ tys, tx ≠ ty → isS "list" ty ≠ isS "list" tx ∨ (isS "list" ty = isS "list" tx ∧ isS "tuple" ty ≠ isS "tuple" tx) := by decide
theorem seq_yes : ∀ tx ∈ ["list", "tuple"], (isS "list" tx || isS "tuple" tx) = true := by decide
theorem atom_no : ∀ tx ∈ ["NoneType", "bool", "int", "str"], (isS "list" tx || isS "tuple" tx) = false ∧ isS "dict" tx = false := by decide
inductive ExP (K : PySem.W.Frag) (G : Hp) : Nat → V → V → Prop → Prop where
  | data {n : Nat} {x y : V} {d e : PyData} {P : Prop} : Dp K G x d → Dp K G y e → d.depth < n → Fine 60 d → Fine 60 e → slim d = true → (P ↔ d = e) → ExP K G n x y P
  | empE {n : Nat} {x : V} {b : Addr} {P : Prop} : 2 < n → Emp G x → Rd G b (.dK []) → P → ExP K G n x (.ref b) P
  | empD {n : Nat} {x y : V} {e : PyData} {P : Prop} : 0 < n → Emp G x → Dp K G y e → ¬ P → ExP K G n x y P
  | list {n : Nat} {a b : Addr} {xs ys : List V} {P : Prop} (Ps : Nat → Prop) : SqL K G a xs → SqL K G b ys → xs.length = ys.length → xs.length ≤ 1000 → (∀ i x y, xs[i]? = some x → ys[i]? = some y → ExP K G n x y (Ps i)) → (P ↔ ∀ i, i < xs.length → Ps i) → ExP K G (n + 1) (.ref a) (.ref b) P
theorem Emp.mono {G G' : Hp} {v : V} (h : Emp G v) (s : Same G G') : Emp G' v := by
  obtain ⟨a, o, e, h⟩ := h
  exact ⟨a, o, e, s _ _ h⟩
theorem ExP.mono {K : PySem.W.Frag} {G G' : Hp} (s : Same G G') {n : Nat} {x y : V} {P : Prop} (h : ExP K G n x y P) : ExP K G' n x y P := by
  induction h with
  | data h1 h2 h3 h4 h5 h6 h7 => exact .data (Dp.mono s h1) (Dp.mono s h2) h3 h4 h5 h6 h7
  | empE h1 h2 h3 h4 => exact .empE h1 (h2.mono s) (Same.rd s h3) h4
  | empD h1 h2 h3 h4 => exact .empD h1 (h2.mono s) (Dp.mono s h3) h4
  | list Ps h1 h2 h3 h4 _ h6 ih => exact .list Ps (s.seq h1) (s.seq h2) h3 h4 ih h6
inductive Sit (K : PySem.W.Frag) (G : Hp) (n : Nat) (x y : V) (P : Prop) : Prop where
  | seq (a b : Addr) (xs ys : List V) (t : String) (Ps : Nat → Prop) (ex : x = .ref a) (ey : y = .ref b) (ht : (t = "list" ∧ SqL K G a xs ∧ SqL K G b ys) ∨ (t = "tuple" ∧ SqT K G a xs ∧ SqT K G b ys))
      (hel : xs.length = ys.length → ∀ i x y, xs[i]? = some x → ys[i]? = some y → ExP K G n x y (Ps i)) (hP : P ↔ xs.length = ys.length ∧ ∀ i, i < xs.length → Ps i) (hl : xs.length ≤ 1000) : Sit K G n x y P
  | mix (t : String) (e : PyData) (a : Addr) (xs : List V) (ex : x = .ref a) (ht : (t = "list" ∧ SqL K G a xs) ∨ (t = "tuple" ∧ SqT K G a xs)) (hy : Dp K G y e) (ne : t ≠ tyN e) (hP : ¬ P) : Sit K G n x y P
  | atom (d e : PyData) (hx : Dp K G x d) (hy : Dp K G y e) (hd : tyN d ∈ ["NoneType", "bool", "int", "str"]) (fd : Fine 60 d) (fe : Fine 60 e) (hP : P ↔ d = e) : Sit K G n x y P
  | empE (b : Addr) (hn : 2 ≤ n) (hx : Emp G x) (ey : y = .ref b) (hy : Rd G b (.dK [])) (hP : P) : Sit K G n x y P
  | empD (e : PyData) (hx : Emp G x) (hy : Dp K G y e) (hP : ¬ P) : Sit K G n x y P
theorem fine_of_mem {n : Nat} : ∀ {ds : List PyData}, PyData.canLayAll0 ds = true → PyData.depthAll ds ≤ n → ∀ d ∈ ds, Fine n d
  | x :: ds, h1, h2, d, hd => by
    rw [PyData.canLayAll0, Bool.and_eq_true] at h1
    rw [PyData.depthAll] at h2
    rcases List.mem_cons.mp hd with rfl | hd
    · exact ⟨h1.1, by omega⟩
    · exact fine_of_mem h1.2 (by omega) d hd
theorem sit_seq {K : PySem.W.Frag} {G : Hp} {n : Nat} {xs ys : List V} {ds es : List PyData} {P : Prop} (h1 : DpAll K G xs ds) (h2 : DpAll K G ys es) (hd : PyData.depthAll ds < n) (l1 : PyData.canLayAll0 ds = true) (l2 : PyData.canLayAll0 es = true) (d1 : PyData.depthAll ds ≤ 60) (d2 : PyData.depthAll es ≤ 60)
    (sl : ∀ d ∈ ds, slim d = true) (hP : P ↔ ds = es) : (xs.length = ys.length → ∀ (i : Nat) (x y : V), xs[i]? = some x → ys[i]? = some y → ExP K G n x y (ds[i]? = es[i]?)) ∧ (P ↔ xs.length = ys.length ∧ ∀ i, i < xs.length → ds[i]? = es[i]?) := by
  have e1 := DpAll.length h1
  have e2 := DpAll.length h2
  refine ⟨fun _ i x y hx hy => ?_, ?_⟩
  · obtain ⟨d, hd1, hd2⟩ := DpAll.get h1 hx
    obtain ⟨e, he1, he2⟩ := DpAll.get h2 hy
    have m1 := List.mem_of_getElem? hd1
    have m2 := List.mem_of_getElem? he1
    refine .data hd2 he2 (by have := dep_mem m1; omega) (fine_of_mem l1 d1 d m1) (fine_of_mem l2 d2 e m2) (sl d m1) ?_
    rw [hd1, he1]
    exact ⟨Option.some.inj, congrArg _⟩
  · rw [hP, e1, e2]
    constructor
    · rintro rfl
      exact ⟨rfl, fun i _ => rfl⟩
    · rintro ⟨hl, h⟩
      refine List.ext_getElem? fun i => ?_
      by_cases hi : i < ds.length
      · exact h i hi
      · rw [List.getElem?_eq_none (by omega), List.getElem?_eq_none (by omega)]
theorem ExP.sit {K : PySem.W.Frag} {G : Hp} {n : Nat} {x y : V} {P : Prop} (h : ExP K G (n + 1) x y P) : Sit K G n x y P := by
  cases h with
  | @data _ _ _ d e _ h1 h2 h3 h4 h5 h6 h7 =>
    have hcl := h4.lay
    have hcl2 := h5.lay
    have hdp := h4.dep
    have hdp2 := h5.dep
    cases h1 with
    | @lst a xs ds hl hda =>
      rw [dep_list] at h3 hdp
      rw [PyData.canLay0] at hcl
      by_cases he : ∃ es, e = .list es
      · obtain ⟨es, rfl⟩ := he
        obtain ⟨b, ys, rfl, hl2, hda2⟩ := dp_list h2
        rw [dep_list] at hdp2
        rw [PyData.canLay0] at hcl2
        obtain ⟨s1, s2⟩ := slim_list.mp h6
        obtain ⟨q1, q2⟩ := sit_seq (n := n) (P := P) hda hda2 (by omega) hcl hcl2 (by omega) (by omega) s2 (h7.trans ⟨PyData.list.inj, congrArg _⟩)
        exact .seq a b xs ys "list" _ rfl rfl (.inl ⟨rfl, hl, hl2⟩) q1 q2 (by rw [DpAll.length hda]; exact s1)
      · refine .mix "list" e a xs rfl (.inl ⟨rfl, hl⟩) h2 (fun z => ?_) fun p => he ⟨ds, (h7.mp p).symm⟩
        cases h2 <;> simp [tyN] at z he
    | @tup a xs ds hl hda =>
      rw [dep_tuple] at h3 hdp
      rw [PyData.canLay0] at hcl
      by_cases he : ∃ es, e = .tuple es
      · obtain ⟨es, rfl⟩ := he
        obtain ⟨b, ys, rfl, hl2, hda2⟩ := dp_tuple h2
        rw [dep_tuple] at hdp2
        rw [PyData.canLay0] at hcl2
        obtain ⟨s1, s2⟩ := slim_tuple.mp h6
        obtain ⟨q1, q2⟩ := sit_seq (n := n) (P := P) hda hda2 (by omega) hcl hcl2 (by omega) (by omega) s2 (h7.trans ⟨PyData.tuple.inj, congrArg _⟩)
        exact .seq a b xs ys "tuple" _ rfl rfl (.inr ⟨rfl, hl, hl2⟩) q1 q2 (by rw [DpAll.length hda]; exact s1)
      · refine .mix "tuple" e a xs rfl (.inr ⟨rfl, hl⟩) h2 (fun z => ?_) fun p => he ⟨ds, (h7.mp p).symm⟩
        cases h2 <;> simp [tyN] at z he
    | non => exact .atom _ _ .non h2 (by simp [tyN]) h4 h5 h7
    | bl b => exact .atom _ _ (.bl b) h2 (by simp [tyN]) h4 h5 h7
    | int b => exact .atom _ _ (.int b) h2 (by simp [tyN]) h4 h5 h7
    | str b => exact .atom _ _ (.str b) h2 (by simp [tyN]) h4 h5 h7
  | empE h1 h2 h3 h4 => exact .empE _ (by omega) h2 rfl h3 h4
  | empD h1 h2 h3 h4 => exact .empD _ h2 h3 h4
  | list Ps h1 h2 h3 h4 h5 h6 => exact .seq _ _ _ _ "list" Ps rfl rfl (.inl ⟨rfl, h1, h2⟩) (fun _ => h5) (h6.trans ⟨fun q => ⟨h3, q⟩, fun q => q.2⟩) h4
theorem atom_eq {K : PySem.W.Frag} {G : Hp} {x y : V} {d e : PyData} (hx : Dp K G x d) (hy : Dp K G y e) (hd : tyN d ∈ ["NoneType", "bool", "int", "str"]) :
    d = e ↔ isS "int" (tyN d) = isS "int" (tyN e) ∧ isS "bool" (tyN d) = isS "bool" (tyN e) ∧ PyData.eqv d e = true := by
  have b1 : isS "int" "bool" = true := by decide
  have b2 : isS "int" "int" = true := by decide
  have b3 : isS "bool" "bool" = true := by decide
  have b4 : isS "bool" "int" = false := by decide
  cases hx <;> cases hy <;> simp [tyN, PyData.eqv, b1, b2, b3, b4] at hd ⊢
theorem walk_zipT {K : PySem.W.Frag} {a b : Addr} {xs ys : List V} {n : Nat} (hn : n = min xs.length ys.length) : Walk (RZ.ItzT K a b) n (fun H => SqT K H a xs ∧ SqT K H b ys) (YPair (fun i => xs[i]?) (fun i => ys[i]?)) := by
  subst hn
  refine ⟨fun i _ hi q => ?_, fun _ q => ⟨xs, ys, q.1, q.2, by omega⟩, fun i H v H' _ q y => ?_⟩
  · have h1 : i < xs.length := by omega
    have h2 : i < ys.length := by omega
    exact ⟨xs, ys, xs[i], ys[i], q.1, q.2, by simp [h1], by simp [h2]⟩
  · obtain ⟨T, x, z, h1, h2, h3, h4, h5⟩ := y
    exact ⟨T, x, z, h1, h2, h3, h4 xs q.1, h5 ys q.2⟩
section
variable {P : Program} {w : World} {K : PySem.W.Frag} {mg : Str → Option Value} {base : Heap} {C : Addr}
def spExact (K : PySem.W.Frag) (n : Nat) : Sp := fun vs H Q _ => ∃ (S : List Addr) (x y : L2.V) (R : Prop), vs = [x, y] ∧ Live S H ∧ ExP K (hid S H) n x y R ∧ ∀ b H', (b = true ↔ R) → Kp [] H H' → Q (.bl b) H'
theorem bl_eqb {a b : Bool} : decide (L2.V.bl a = L2.V.bl b) = decide (a = b) := by cases a <;> cases b <;> decide
theorem c_l_exact (Y : Env K mg C) : ∀ n, Def P w K mg base (Str.ofString "_law_exact") n ["_law_mine", "_law_theirs"] (spExact K n)
  | 0 => def_zero Y.t_l_exact bb_l_exact fun vs H Q E h => by
    obtain ⟨S, x, y, R, rfl, hS, h, k⟩ := h
    cases h with
    | data _ _ h _ _ _ _ => exact absurd h (Nat.not_lt_zero _)
    | empE h _ _ _ => exact absurd h (Nat.not_lt_zero _)
    | empD h _ _ _ => exact absurd h (Nat.lt_irrefl _)
  | n + 1 => by
    have ih := c_l_exact Y n
    refine def_mk Y.t_l_exact sc_l_exact bb_l_exact (fun vs H Q E h => ?_) (fun f cdv A outer s H vs Q E hr h => ?_)
    · obtain ⟨S, x, y, R, rfl, _⟩ := h
      rfl
    · obtain ⟨S, x, y, R, rfl, hS, h, k⟩ := h
      refine ⟨_, (pss_cons (ps_if (pt_val (pe_callB (K_isiT (K := K) rfl) (by rfl) Y.n_isinstance (by decide +kernel) (pa_cons (pv 0) (pa_cons (pe_tup (pa_cons (pe_bltn (u := .type "list") (v := .ty "list") rfl Y.n_list (by decide +kernel) rfl) (pa_cons (pe_bltn (u := .type "tuple") (v := .ty "tuple") rfl Y.n_tuple (by decide +kernel) rfl) pa_nil))) pa_nil)))) (pss_cons (ps_set (i := 2) sc_l_exact.nd rfl (Or.inl rfl) (pe_and (pe_cmpR op_eq (pe_callB (K_isi (K := K) rfl) (by rfl) Y.n_isinstance (by decide +kernel) (pa_cons (pv 1) (pa_cons (pe_bltn (u := .type "list") (v := .ty "list") rfl Y.n_list (by decide +kernel) rfl) pa_nil))) (pe_callB (K_isi (K := K) rfl) (by rfl) Y.n_isinstance (by decide +kernel) (pa_cons (pv 0) (pa_cons (pe_bltn (u := .type "list") (v := .ty "list") rfl Y.n_list (by decide +kernel) rfl) pa_nil))) (nomark _)) (pe_one (pe_cmpR op_eq (pe_callB (K_isi (K := K) rfl) (by rfl) Y.n_isinstance (by decide +kernel) (pa_cons (pv 1) (pa_cons (pe_bltn (u := .type "tuple") (v := .ty "tuple") rfl Y.n_tuple (by decide +kernel) rfl) pa_nil))) (pe_callB (K_isi (K := K) rfl) (by rfl) Y.n_isinstance (by decide +kernel) (pa_cons (pv 0) (pa_cons (pe_bltn (u := .type "tuple") (v := .ty "tuple") rfl Y.n_tuple (by decide +kernel) rfl) pa_nil))) (nomark _)))))
    (pss_one (ps_ret (pe_and (pv 2) (pe_and (pe_cmpR op_eq (pe_callB (K_len (K := K) rfl) (by rfl) Y.n_len (by decide +kernel) (pa_cons (pv 0) pa_nil)) (pe_callB (K_len (K := K) rfl) (by rfl) Y.n_len (by decide +kernel) (pa_cons (pv 1) pa_nil)) (nomark _)) (pe_one (pe_callB (K_all (K := K) rfl rfl) (by rfl) Y.n_all (by decide +kernel) (pa_cons (pe_lc (own := [("_law_a", 4), ("_law_b", 5)]) rfl sc_l_exact.nd (RZ.pi_zipA (by rfl) Y.n_zip (pa_cons (pv 0) (pa_cons (pv 1) pa_nil))) (blkOk_by (own := [("_law_a", 4), ("_law_b", 5)]) (N := ["_law_mine", "_law_theirs", "_law_alike", "_law_key", "_law_a", "_law_b"]) (sc := defScope s_l_exact) (by decide +kernel)) (fun _ _ _ _ _ => (K_pgtup (K := K) (n := 2) rfl rfl (pgs_cons (pg_name (i := 4) sc_l_exact.nd rfl (Or.inl rfl)) (pgs_cons (pg_name (i := 5) sc_l_exact.nd rfl (Or.inl rfl)) pgs_nil)))) (fun _ _ _ _ _ => pts_nil) (fun _ _ _ _ _ => (pe_def ih hr (pa_cons (pv 4) (pa_cons (pv 5) pa_nil))))) pa_nil)))))))) pss_nil)
    (pss_cons (ps_if (pt_val (pe_callB (K_isi (K := K) rfl) (by rfl) Y.n_isinstance (by decide +kernel) (pa_cons (pv 0) (pa_cons (pe_bltn (u := .type "dict") (v := .ty "dict") rfl Y.n_dict (by decide +kernel) rfl) pa_nil)))) (pss_cons (ps_set (i := 2) sc_l_exact.nd rfl (Or.inl rfl) (pe_and (pe_callB (K_isi (K := K) rfl) (by rfl) Y.n_isinstance (by decide +kernel) (pa_cons (pv 1) (pa_cons (pe_bltn (u := .type "dict") (v := .ty "dict") rfl Y.n_dict (by decide +kernel) rfl) pa_nil))) (pe_one (pe_def ih hr (pa_cons (pe_callTy (call_listD rfl) (by rfl) Y.n_list (by decide +kernel) (pa_cons (pv 0) pa_nil)) (pa_cons (pe_callTy (call_listD rfl) (by rfl) Y.n_list (by decide +kernel) (pa_cons (pv 1) pa_nil)) pa_nil))))))
    (pss_one (ps_ret (pe_and (pv 2) (pe_one (pe_callB (K_all (K := K) rfl rfl) (by rfl) Y.n_all (by decide +kernel) (pa_cons (pe_lc (own := [("_law_key", 3)]) rfl sc_l_exact.nd (pi_keys (pv 0)) (blkOk_by (own := [("_law_key", 3)]) (N := ["_law_mine", "_law_theirs", "_law_alike", "_law_key", "_law_a", "_law_b"]) (sc := defScope s_l_exact) (by decide +kernel)) (fun _ _ _ _ _ => (pg_name (i := 3) sc_l_exact.nd rfl (Or.inl rfl))) (fun _ _ _ _ _ => pts_nil) (fun _ _ _ _ _ => (pe_def ih hr (pa_cons (pe_dget (hu_of hr) (pv 0) (pv 3) (fun _ _ => rfl)) (pa_cons (pe_dget (hu_of hr) (pv 1) (pv 3) (fun _ _ => rfl)) pa_nil))))) pa_nil))))))) pss_nil)
    (pss_cons (ps_set (i := 2) sc_l_exact.nd rfl (Or.inl rfl) (pe_cmpR op_eq (pe_callB (K_isi (K := K) rfl) (by rfl) Y.n_isinstance (by decide +kernel) (pa_cons (pv 0) (pa_cons (pe_bltn (u := .type "int") (v := .ty "int") rfl Y.n_int (by decide +kernel) rfl) pa_nil))) (pe_callB (K_isi (K := K) rfl) (by rfl) Y.n_isinstance (by decide +kernel) (pa_cons (pv 1) (pa_cons (pe_bltn (u := .type "int") (v := .ty "int") rfl Y.n_int (by decide +kernel) rfl) pa_nil))) (nomark _)))
    (pss_one (ps_ret (pe_and (pv 2) (pe_and (pe_cmpR op_eq (pe_callB (K_isi (K := K) rfl) (by rfl) Y.n_isinstance (by decide +kernel) (pa_cons (pv 0) (pa_cons (pe_bltn (u := .type "bool") (v := .ty "bool") rfl Y.n_bool (by decide +kernel) rfl) pa_nil))) (pe_callB (K_isi (K := K) rfl) (by rfl) Y.n_isinstance (by decide +kernel) (pa_cons (pv 1) (pa_cons (pe_bltn (u := .type "bool") (v := .ty "bool") rfl Y.n_bool (by decide +kernel) rfl) pa_nil))) (nomark _)) (pe_one (pe_cmpR (K_eqD (K := K) rfl (hu65 hr)) (pv 0) (pv 1) (nomark _)))))))))), ?_⟩
      refine ⟨_, rfl, by show 2 ≤ sizeLine; decide, fun tp np => ?_⟩
      have k0 : Kp [] H (upd H tp (.tup [.ty "list", .ty "tuple"])) := kp_new np
      have htp : (upd H tp (.tup [.ty "list", .ty "tuple"])) tp = some (.tup [.ty "list", .ty "tuple"]) := upd_same
      have h0 := h.mono (k0.hid0 (S := S))
      have hS0 := k0.live hS
      generalize (upd H tp (.tup [.ty "list", .ty "tuple"])) = H0 at k0 htp h0 hS0 ⊢
      clear h hS
      cases h0.sit with
      | seq a b xs ys t Ps ex ey ht hel hP hl =>
        subst ex ey
        have tx : TyX K H0 (.ref a) (.type t) ∧ TyX K H0 (.ref b) (.type t) := by
          rcases ht with ⟨rfl, h1, h2⟩ | ⟨rfl, h1, h2⟩
          · exact ⟨tyx_list (hid_le.seq h1), tyx_list (hid_le.seq h2)⟩
          · exact ⟨tyx_tup (Same.tup hid_le h1), tyx_tup (Same.tup hid_le h2)⟩
        have tl : t ∈ ["list", "tuple"] := by rcases ht with ⟨rfl, _⟩ | ⟨rfl, _⟩ <;> simp
        have t7 : t ∈ tys := by rcases ht with ⟨rfl, _⟩ | ⟨rfl, _⟩ <;> simp [tys]
        refine ⟨_, tp, _, _, _, _, rfl, htp, .cons (.ty "list") (.cons (.ty "tuple") .nil), tx.1, any2 t7, _, rfl, if_yes (seq_yes t tl) ?_⟩
        refine ⟨_, rfl, _, _, _, _, _, rfl, .ty "list", tx.2, isi7 t7 (by simp), _, rfl, _, _, _, _, _, rfl, .ty "list", tx.1, isi7 t7 (by simp), rfl, _, rfl, if_yes (decide_eq_true rfl) ?_⟩
        refine ⟨_, rfl, _, _, _, _, _, rfl, .ty "tuple", tx.2, isi7 t7 (by simp), _, rfl, _, _, _, _, _, rfl, .ty "tuple", tx.1, isi7 t7 (by simp), rfl, ?_⟩
        refine ⟨_, rfl, _, rfl, if_yes (decide_eq_true rfl) ?_⟩
        have hsq : (SqL K H0 a xs ∧ SqL K H0 b ys) ∨ (SqT K H0 a xs ∧ SqT K H0 b ys) := by
          rcases ht with ⟨_, h1, h2⟩ | ⟨_, h1, h2⟩
          · exact .inl ⟨hid_le.seq h1, hid_le.seq h2⟩
          · exact .inr ⟨Same.tup hid_le h1, Same.tup hid_le h2⟩
        refine ⟨_, rfl, a, xs, rfl, hsq.imp And.left And.left, _, rfl, b, ys, rfl, hsq.imp And.right And.right, rfl, _, rfl, ?_⟩
        rw [int_eqb]
        by_cases hlen : xs.length = ys.length
        · refine if_yes (decide_eq_true (by omega)) ?_
          refine ⟨_, rfl, _, rfl, a, b, xs, ys, rfl, ?_⟩
          rcases hsq with ⟨q1, q2⟩ | ⟨q1, q2⟩
          · refine .inl ⟨q1, q2, fun D hD => ?_⟩
            refine lcRM (K := K) (S := S) (T := []) (n := xs.length) (walk_zip (by omega)) (fun _ _ => True) (fun i ds => ∃ bs : List Bool, ds = bs.map .bool ∧ bs.length = i ∧ ∀ j (hj : j < bs.length), bs[j] = true ↔ Ps j) hD (by simp) hS0 (by omega) (fun H' kp => ⟨kp.same.seq q1, kp.same.seq q2⟩) ⟨[], rfl, rfl, fun j hj => absurd hj (Nat.not_lt_zero _)⟩ trivial (fun _ _ _ _ => trivial) ?_ ?_
            · rintro i v Ha Hb ds Yes hi kp hL _ ⟨bs, rfl, hbl, hbs⟩ ⟨T, x, y, rfl, nT, rfl, hx, hy⟩ yes
              have m : Same (hid S H0) (hid (D :: S) (upd Ha T (.tup [x, y]))) := by
                rw [← hid_cons hD]
                exact (kp.new nT).hid0
              refine ⟨T, [x, y], rfl, .inl (.inl upd_same), rfl, x, _, rfl, y, _, rfl, rfl, rfl, _, rfl, _, rfl, ?_⟩
              refine ⟨D :: S, x, y, Ps i, rfl, (kp_new (T := []) nT).live hL, (hel hlen i x y hx hy).mono m, fun b H' hb kp' => ?_⟩
              refine yes _ _ (.bool b) ((kp_new nT).trans kp') trivial (.bl b) ⟨bs ++ [b], by rw [List.map_append]; rfl, by rw [List.length_append, hbl]; rfl, fun j hj => ?_⟩
              by_cases hji : j < bs.length
              · rw [List.getElem_append_left hji]
                exact hbs j hji
              · have ej : j = bs.length := by
                  rw [List.length_append, List.length_singleton] at hj
                  omega
                subst ej
                rw [List.getElem_concat_length rfl, hbl]
                exact hb
            · rintro H2 ys2 ds kp hL _ ⟨bs, rfl, hbl, hbs⟩ hl2 hle da dp
              have e2 : ys2 = bs.map L2.V.bl := by
                have q := da_bools (f := id) (xs := bs) da
                rwa [List.map_id] at q
              rw [e2] at hl2
              refine ⟨D, bs, rfl, .inl (.inl hl2), k _ _ ?_ (k0.trans kp)⟩
              rw [hP, List.all_eq_true]
              constructor
              · exact fun h => ⟨hlen, fun i hi => (hbs i (by omega)).mp (h _ (List.getElem_mem (by omega)))⟩
              · rintro ⟨_, h⟩ b hb
                obtain ⟨i, hi, rfl⟩ := List.mem_iff_getElem.mp hb
                exact (hbs i hi).mpr (h i (by omega))
          · refine .inr ⟨q1, q2, fun D hD => ?_⟩
            refine lcRM (K := K) (S := S) (T := []) (n := xs.length) (walk_zipT (by omega)) (fun _ _ => True) (fun i ds => ∃ bs : List Bool, ds = bs.map .bool ∧ bs.length = i ∧ ∀ j (hj : j < bs.length), bs[j] = true ↔ Ps j) hD (by simp) hS0 (by omega) (fun H' kp => ⟨Same.tup kp.same q1, Same.tup kp.same q2⟩) ⟨[], rfl, rfl, fun j hj => absurd hj (Nat.not_lt_zero _)⟩ trivial (fun _ _ _ _ => trivial) ?_ ?_
            · rintro i v Ha Hb ds Yes hi kp hL _ ⟨bs, rfl, hbl, hbs⟩ ⟨T, x, y, rfl, nT, rfl, hx, hy⟩ yes
              have m : Same (hid S H0) (hid (D :: S) (upd Ha T (.tup [x, y]))) := by
                rw [← hid_cons hD]
                exact (kp.new nT).hid0
              refine ⟨T, [x, y], rfl, .inl (.inl upd_same), rfl, x, _, rfl, y, _, rfl, rfl, rfl, _, rfl, _, rfl, ?_⟩
              refine ⟨D :: S, x, y, Ps i, rfl, (kp_new (T := []) nT).live hL, (hel hlen i x y hx hy).mono m, fun b H' hb kp' => ?_⟩
              refine yes _ _ (.bool b) ((kp_new nT).trans kp') trivial (.bl b) ⟨bs ++ [b], by rw [List.map_append]; rfl, by rw [List.length_append, hbl]; rfl, fun j hj => ?_⟩
              by_cases hji : j < bs.length
              · rw [List.getElem_append_left hji]
                exact hbs j hji
              · have ej : j = bs.length := by
                  rw [List.length_append, List.length_singleton] at hj
                  omega
                subst ej
                rw [List.getElem_concat_length rfl, hbl]
                exact hb
            · rintro H2 ys2 ds kp hL _ ⟨bs, rfl, hbl, hbs⟩ hl2 hle da dp
              have e2 : ys2 = bs.map L2.V.bl := by
                have q := da_bools (f := id) (xs := bs) da
                rwa [List.map_id] at q
              rw [e2] at hl2
              refine ⟨D, bs, rfl, .inl (.inl hl2), k _ _ ?_ (k0.trans kp)⟩
              rw [hP, List.all_eq_true]
              constructor
              · exact fun h => ⟨hlen, fun i hi => (hbs i (by omega)).mp (h _ (List.getElem_mem (by omega)))⟩
              · rintro ⟨_, h⟩ b hb
                obtain ⟨i, hi, rfl⟩ := List.mem_iff_getElem.mp hb
                exact (hbs i hi).mpr (h i (by omega))
        · refine if_no (decide_eq_false (by omega)) ?_
          exact k _ _ ⟨(fun z => nomatch z), (fun r => absurd (hP.mp r).1 hlen)⟩ k0
      | mix t e a xs ex ht hy ne hP =>
        subst ex
        have tx : TyX K H0 (.ref a) (.type t) := by
          rcases ht with ⟨rfl, h1⟩ | ⟨rfl, h1⟩
          · exact tyx_list (hid_le.seq h1)
          · exact tyx_tup (Same.tup hid_le h1)
        have tl : t ∈ ["list", "tuple"] := by rcases ht with ⟨rfl, _⟩ | ⟨rfl, _⟩ <;> simp
        have t7 : t ∈ tys := by rcases ht with ⟨rfl, _⟩ | ⟨rfl, _⟩ <;> simp [tys]
        have hy0 := Dp.mono hid_le hy
        have te := ty_dp hy0
        have ty := tyx hy0
        refine ⟨_, tp, _, _, _, _, rfl, htp, .cons (.ty "list") (.cons (.ty "tuple") .nil), tx, any2 t7, _, rfl, if_yes (seq_yes t tl) ?_⟩
        refine ⟨_, rfl, _, _, _, _, _, rfl, .ty "list", ty, isi7 te (by simp), _, rfl, _, _, _, _, _, rfl, .ty "list", tx, isi7 t7 (by simp), rfl, _, rfl, ?_⟩
        rcases alike_no t tl _ te ne with h1 | ⟨h1, h2⟩
        · refine if_no (by rw [bl_eqb]; exact decide_eq_false h1) ?_
          exact ⟨_, rfl, false, rfl, iteF (k _ _ ⟨(fun z => nomatch z), (fun r => absurd r hP)⟩ k0)⟩
        · refine if_yes (by rw [bl_eqb]; exact decide_eq_true h1) ?_
          refine ⟨_, rfl, _, _, _, _, _, rfl, .ty "tuple", ty, isi7 te (by simp), _, rfl, _, _, _, _, _, rfl, .ty "tuple", tx, isi7 t7 (by simp), rfl, ?_⟩
          exact ⟨_, rfl, _, rfl, if_no (by rw [bl_eqb]; exact decide_eq_false h2) (k _ _ ⟨(fun z => nomatch z), (fun r => absurd r hP)⟩ k0)⟩
      | atom d e hx hy hd fd fe hP =>
        have hx0 := Dp.mono hid_le hx
        have hy0 := Dp.mono hid_le hy
        have te := ty_dp hy0
        have ty := tyx hy0
        have td := ty_dp hx0
        have tx := tyx hx0
        obtain ⟨n1, n2⟩ := atom_no _ hd
        refine ⟨_, tp, _, _, _, _, rfl, htp, .cons (.ty "list") (.cons (.ty "tuple") .nil), tx, any2 td, _, rfl, if_no n1 ?_⟩
        refine ⟨_, rfl, _, _, _, _, _, rfl, .ty "dict", tx, isi7 td (by simp), _, rfl, if_no n2 ?_⟩
        refine ⟨_, rfl, _, _, _, _, _, rfl, .ty "int", tx, isi7 td (by simp), _, rfl, _, _, _, _, _, rfl, .ty "int", ty, isi7 te (by simp), rfl, ?_⟩
        have ae := hP.trans (atom_eq hx hy hd)
        refine ⟨_, rfl, _, rfl, ?_⟩
        rw [bl_eqb]
        by_cases h1 : isS "int" (tyN d) = isS "int" (tyN e)
        · refine if_yes (decide_eq_true h1) ?_
          refine ⟨_, rfl, _, _, _, _, _, rfl, .ty "bool", tx, isi7 td (by simp), _, rfl, _, _, _, _, _, rfl, .ty "bool", ty, isi7 te (by simp), rfl, _, rfl, ?_⟩
          rw [bl_eqb]
          by_cases h2 : isS "bool" (tyN d) = isS "bool" (tyN e)
          · refine if_yes (decide_eq_true h2) ?_
            exact ⟨_, rfl, _, rfl, d, e, hx0, hy0, fd.shaped (by decide), fe.shaped (by decide), k _ _ ⟨fun h => ae.mpr ⟨h1, h2, h⟩, fun r => (ae.mp r).2.2⟩ k0⟩
          · exact if_no (decide_eq_false h2) (k _ _ ⟨(fun z => nomatch z), (fun r => absurd (ae.mp r).2.1 h2)⟩ k0)
        · exact if_no (decide_eq_false h1) (k _ _ ⟨(fun z => nomatch z), (fun r => absurd (ae.mp r).1 h1)⟩ k0)
      | empE b hn hx ey hy hP =>
        subst ey
        obtain ⟨a, o, rfl, ha⟩ := hx
        have ha0 : H0 a = some (.frz o (.dK [])) := hid_le _ _ ha
        have hb0 : Rd H0 b (.dK []) := Same.rd hid_le hy
        have tx : TyX K H0 (.ref a) (.type "dict") := .fDict ha0
        have ty : TyX K H0 (.ref b) (.type "dict") := by
          rcases hb0 with h | ⟨o2, h⟩
          · exact .base (.dK h)
          · exact .fDict h
        refine ⟨_, tp, _, _, _, _, rfl, htp, .cons (.ty "list") (.cons (.ty "tuple") .nil), tx, any2 (by simp [tys]), _, rfl, if_no (by decide : (isS "list" "dict" || isS "tuple" "dict") = false) ?_⟩
        refine ⟨_, rfl, _, _, _, _, _, rfl, .ty "dict", tx, isi7 (by simp [tys]) (by simp), _, rfl, if_yes (by decide : isS "dict" "dict" = true) ?_⟩
        refine ⟨_, rfl, _, _, _, _, _, rfl, .ty "dict", ty, isi7 (by simp [tys]) (by simp), _, rfl, if_yes (by decide : isS "dict" "dict" = true) ?_⟩
        refine ⟨_, rfl, a, [], rfl, .inr ⟨o, ha0⟩, fun p1 n1 => ?_⟩
        refine ⟨_, rfl, b, [], rfl, Same.rd (same_new n1) hb0, fun p2 n2 => ?_⟩
        have k1 := (kp_new (T := []) (o := .lst (([] : List (Key × L2.V)).map fun kv => kV kv.1)) n1).new (o := .lst (([] : List (Key × L2.V)).map fun kv => kV kv.1)) n2
        have e12 : p1 ≠ p2 := ne_of_none upd_same n2
        have d1 : (upd (upd H0 p1 (.lst (([] : List (Key × L2.V)).map fun kv => kV kv.1))) p2 (.lst (([] : List (Key × L2.V)).map fun kv => kV kv.1))) p1 = some (.lst []) := by rw [upd_ne e12, upd_same]; rfl
        have d2 : (upd (upd H0 p1 (.lst (([] : List (Key × L2.V)).map fun kv => kV kv.1))) p2 (.lst (([] : List (Key × L2.V)).map fun kv => kV kv.1))) p2 = some (.lst []) := upd_same
        have f1 : p1 ∉ S := not_mem_of hS0 n1
        have f2 : p2 ∉ S := not_mem_of ((kp_new (T := []) n1).live hS0) n2
        generalize (upd (upd H0 p1 (.lst (([] : List (Key × L2.V)).map fun kv => kV kv.1))) p2 (.lst (([] : List (Key × L2.V)).map fun kv => kV kv.1))) = H1 at k1 d1 d2 ⊢
        have fn : Fine 60 (.list []) := (fine_lst (xs := []) (n := 0) (by simp)).mono (by decide)
        refine ⟨S, .ref p1, .ref p2, True, rfl, k1.live hS0, .data (.lst (.inl (.inl (hid_at d1 f1))) .nil) (.lst (.inl (.inl (hid_at d2 f2))) .nil) (by rw [dep_list, PyData.depthAll]; omega) fn fn (slim_list.mpr ⟨Nat.zero_le _, by simp⟩) ⟨fun _ => rfl, fun _ => trivial⟩, fun c H2 hc k2 => ?_⟩
        have hc' : c = true := hc.mpr trivial
        refine ⟨_, rfl, c, rfl, if_yes hc' ?_⟩
        have ha2 : H2 a = some (.frz o (.dK [])) := k2.same _ _ (k1.same _ _ ha0)
        refine ⟨_, rfl, a, o, rfl, .inl ⟨[], ha2, fun D hD => ?_⟩⟩
        refine lc_it (walk_keys (kvs := [])) (fun i H' => Kp [] H2 H' ∧ H' D = some (.lst [])) ⟨kp_new hD, upd_same⟩ (fun i H' _ ⟨kp, _⟩ => kp.same _ _ ha2) (fun i x H1 H2 hi => absurd hi (Nat.not_lt_zero _)) ?_
        rintro H3 ⟨kp, h3⟩
        exact ⟨D, [], rfl, .inl (.inl h3), k _ _ ⟨fun _ => hP, fun _ => rfl⟩ (((k0.trans k1).trans k2).trans kp)⟩
      | empD e hx hy hP =>
        obtain ⟨a, o, rfl, ha⟩ := hx
        have ha0 : H0 a = some (.frz o (.dK [])) := hid_le _ _ ha
        have hy0 := Dp.mono hid_le hy
        have te := ty_dp hy0
        have ty := tyx hy0
        have tx : TyX K H0 (.ref a) (.type "dict") := .fDict ha0
        refine ⟨_, tp, _, _, _, _, rfl, htp, .cons (.ty "list") (.cons (.ty "tuple") .nil), tx, any2 (by simp [tys]), _, rfl, if_no (by decide : (isS "list" "dict" || isS "tuple" "dict") = false) ?_⟩
        refine ⟨_, rfl, _, _, _, _, _, rfl, .ty "dict", tx, isi7 (by simp [tys]) (by simp), _, rfl, if_yes (by decide : isS "dict" "dict" = true) ?_⟩
        refine ⟨_, rfl, _, _, _, _, _, rfl, .ty "dict", ty, isi7 te (by simp), _, rfl, if_no (no_dict hy0) ?_⟩
        exact ⟨_, rfl, false, rfl, iteF (k _ _ ⟨(fun z => nomatch z), (fun r => absurd r hP)⟩ k0)⟩
end
end K41
namespace K41
open PySem PySem.Spec PyProof.Rows L2 PySem.W
def alpha : Str := "abcdefghijklmnopqrstuvwxyz"
theorem alpha_len : alpha.length = 26 := by decide +kernel
theorem alpha_at : ∀ j, j < 26 → alpha.cps.toList[j]? = some (97 + j) := by
  have h : ∀ j ∈ List.range 26, alpha.cps.toList[j]? = some (97 + j) := by decide +kernel
  exact fun j hj => h j (List.mem_range.mpr hj)
theorem alpha_ix {k : Int} (h0 : 0 ≤ k) (h1 : k < 26) : ∃ c, atI alpha.cps.toList k = some c ∧ 97 ≤ c ∧ c ≤ 122 := by
  obtain ⟨j, rfl⟩ := Int.eq_ofNat_of_zero_le h0
  have hj : j < 26 := by omega
  exact ⟨97 + j, atI_nat (alpha_at j hj), by omega, by omega⟩
theorem word_of {x : Str} (h0 : 0 < x.cps.toList.length) (h8 : x.cps.toList.length ≤ 8) (h : ∀ c ∈ x.cps.toList, 97 ≤ c ∧ c ≤ 122) : Word x :=
  ⟨h0, h8, h⟩
theorem join_flat : ∀ (ls : List Nat), TL.joinL [] (ls.map fun c => [c]) = ls
  | [] => rfl
  | [c] => rfl
  | c :: d :: ls => by
    show [c] ++ ([] ++ TL.joinL [] ((d :: ls).map fun c => [c])) = c :: d :: ls
    rw [join_flat (d :: ls)]
    rfl
theorem join_letters (ls : List Nat) : (Txt.join "" (ls.map fun c => (⟨#[c]⟩ : Str))).cps.toList = ls := by
  have h := SX.join_S [] (ls.map fun c => [c])
  have e : (ls.map fun c => [c]).map SX.S = ls.map fun c => (⟨#[c]⟩ : Str) := by
    rw [List.map_map]
    rfl
  rw [e, join_flat] at h
  have h' : Txt.join "" (ls.map fun c => (⟨#[c]⟩ : Str)) = SX.S ls := h
  rw [h']
theorem if_tC {c : Bool} {a b : V} {σ : L2.St} {H : Hp} {Q : VK} (h : ∀ v, v = a ∨ v = b → Q v H) : if c = true then tC a σ H Q else tC b σ H Q := by
  split
  · exact h a (.inl rfl)
  · exact h b (.inr rfl)
/-- if b: x = e, joined again behind it -/
theorem ifS_set {b : Bool} {te : TE} {i : Nat} {D : Ends} {σ : L2.St} {H : Hp} {v0 : V} (Pq : V → Hp → Prop) (e : σ.set i (some v0) = σ) (h0 : b = false → Pq v0 H) (hb : b = true → ∀ Kq : VK, (∀ v H', Pq v H' → Kq v H') → te σ H Kq)
    (h : ∀ v H', Pq v H' → D.nx (σ.set i (some v)) H') : if b = true then tAsg te (gName i) D σ H else tNext D σ H := by
  cases b with
  | true => exact hb rfl _ h
  | false =>
    have q := h v0 H (h0 rfl)
    rw [e] at q
    exact q
theorem cut_lo (x : Str) (j : Nat) : (cutS x none (some (j : Int))).cps.toList = x.cps.toList.take (min j x.length) := by
  unfold cutS
  rw [HT.sIx_nat, HT.sIx_none, List.drop_zero, Nat.sub_zero]
theorem cut_hi (x : Str) (j : Nat) : (cutS x (some (j : Int)) none).cps.toList = x.cps.toList.drop j := by
  unfold cutS
  rw [HT.sIx_nat, HT.sIx_none]
  have e : x.cps.toList.length = x.length := rfl
  by_cases h : j ≤ x.length
  · rw [Nat.min_eq_left h, List.take_of_length_le (by rw [List.length_drop]; omega)]
  · rw [Nat.min_eq_right (by omega), List.drop_eq_nil_of_le (by omega), List.drop_eq_nil_of_le (by omega), List.take_nil]
theorem cat_tl (a b : Str) : (a ++ b).cps.toList = a.cps.toList ++ b.cps.toList := TL.tl_append a b
theorem word_mid {x : Str} (h : Word x) {c j : Nat} (hj : j < x.length) (h1 : 97 ≤ c) (h2 : c ≤ 122) : Word (cutS x none (some (j : Int)) ++ ⟨#[c]⟩ ++ cutS x (some ((j : Int) + 1)) none) := by
  have e : (cutS x none (some (j : Int)) ++ (⟨#[c]⟩ : Str) ++ cutS x (some ((j : Int) + 1)) none).cps.toList = x.cps.toList.take j ++ [c] ++ x.cps.toList.drop (j + 1) := by
    have e2 : ((j : Int) + 1) = ((j + 1 : Nat) : Int) := by omega
    rw [cat_tl, cat_tl, e2, cut_lo, cut_hi, Nat.min_eq_left (by omega)]
  have el : x.cps.toList.length = x.length := rfl
  have h8 := h.2.1
  refine word_of ?_ ?_ ?_
  · rw [e, List.length_append, List.length_append, List.length_singleton]
    omega
  · rw [e, List.length_append, List.length_append, List.length_singleton, List.length_take, List.length_drop]
    omega
  · rw [e]
    intro z hz
    rcases List.mem_append.mp hz with hz | hz
    · rcases List.mem_append.mp hz with hz | hz
      · exact h.2.2 z (List.mem_of_mem_take hz)
      · rw [List.mem_singleton.mp hz]
        exact ⟨h1, h2⟩
    · exact h.2.2 z (List.mem_of_mem_drop hz)
theorem letter_word {c : Nat} (h1 : 97 ≤ c) (h2 : c ≤ 122) : Word ⟨#[c]⟩ := word_of (by show 0 < 1; decide) (by show 1 ≤ 8; decide) fun z hz => by
  rw [List.mem_singleton.mp hz]
  exact ⟨h1, h2⟩
/-- some letter is not among a few words -/
theorem letter_free {ws : List Str} (h : ws.length < 26) : 0 < ((alpha.cps.toList.map fun c => (⟨#[c]⟩ : Str)).filter fun x => decide (x ∉ ws)).length := by
  have hn : (alpha.cps.toList.map fun c => (⟨#[c]⟩ : Str)).Nodup := by decide +kernel
  have hl : (alpha.cps.toList.map fun c => (⟨#[c]⟩ : Str)).length = 26 := by decide +kernel
  refine Nat.pos_of_ne_zero fun z => ?_
  have sub : ∀ x ∈ (alpha.cps.toList.map fun c => (⟨#[c]⟩ : Str)), x ∈ ws := fun x hx => by
    by_cases hw : x ∈ ws
    · exact hw
    · exact absurd (List.mem_filter.mpr ⟨hx, decide_eq_true hw⟩) (by rw [List.length_eq_zero_iff.mp z]; simp)
  have q := nodup_len hn sub
  omega
theorem alpha_word {x : Str} (h : x ∈ alpha.cps.toList.map fun c => (⟨#[c]⟩ : Str)) : Word x := by
  obtain ⟨c, hc, rfl⟩ := List.mem_map.mp h
  have q : ∀ c ∈ alpha.cps.toList, 97 ≤ c ∧ c ≤ 122 := by decide +kernel
  exact letter_word (q c hc).1 (q c hc).2
section
variable {P : Program} {w : World} {K : PySem.W.Frag} {mg : Str → Option Value} {base : Heap} {C : Addr}
def dNil (ds : List PyData) : Prop := ds = []
def rWord (ds : List PyData) (d : PyData) : Prop := ∃ x, d = .str x ∧ Word x
/-- a drawn number, asked within a wider setting -/
theorem pin {p : Addr} {S : List Addr} (h : p ∈ S) : ∀ b ∈ [p], b ∈ S := fun b hb => by rw [List.mem_singleton.mp hb]; exact h
theorem c_l_word (Y : Env K mg C) : Def P w K mg base (Str.ofString "_law_word") 3 ["_law_purse_here"] (spP K 12 dNil rWord) := by
  refine def_mk Y.t_l_word sc_l_word bb_l_word (fun vs H Q E h => ?_) (fun f cdv A outer s H vs Q E hr h => ?_)
  · obtain ⟨S, p, m, rest, ds, rfl, hS, hp, hP, hm, h, rfl, k⟩ := h
    exact congrArg Nat.succ (DpAll.length h)
  · obtain ⟨S, p, m, rest, ds, rfl, hS, hp, hP, hm, h, rfl, k⟩ := h
    obtain rfl := da_nil h
    refine ⟨_, (pss_cons (ps_set (i := 1) sc_l_word.nd rfl (Or.inl rfl) (pe_op op_add pe_int (pe_def (c_l_draw Y) (hr.mono (by decide)) (pa_cons (pv 0) (pa_cons (pe_ifExp (pt_cmpR op_eq (pe_def (c_l_draw Y) (hr.mono (by decide)) (pa_cons (pv 0) (pa_cons pe_int pa_nil))) pe_int (nomark _)) pe_int pe_int) pa_nil)))))
    (pss_one (ps_ret (pe_join pe_str (pe_lc (own := [("_law_spin", 2)]) rfl sc_l_word.nd (pi_range1 rfl Y.n_range (pa_cons (pv 1) pa_nil)) (blkOk_by (own := [("_law_spin", 2)]) (N := ["_law_purse_here", "_law_size", "_law_spin"]) (sc := defScope s_l_word) (by decide +kernel)) (fun _ _ _ _ _ => (pg_name (i := 2) sc_l_word.nd rfl (Or.inl rfl))) (fun _ _ _ _ _ => pts_nil) (fun _ _ _ _ _ => (pe_ix ix_str pe_str (pe_def (c_l_draw Y) (hr.mono (by decide)) (pa_cons (pv 0) (pa_cons pe_int pa_nil))) (fun _ _ => rfl)))))))), ?_⟩
    refine ⟨_, rfl, _, rfl, S, p, m, _, [.int 3], rfl, hS, hp, hP, by omega, .cons (.int _) .nil, ⟨3, rfl, by decide, by decide⟩, fun v1 H1 d1 k1 hP1 ⟨_, j1, _, e1, _, _⟩ hv1 => ?_⟩
    subst e1
    obtain rfl := dp_int hv1
    refine ⟨rfl, _, rfl, ?_⟩
    rw [int_eqb]
    refine if_tC fun v8 hv8 => ?_
    obtain ⟨n8, rfl, hn0, hn8⟩ : ∃ n : Int, v8 = .int n ∧ 0 < n ∧ n ≤ 8 := by
      rcases hv8 with rfl | rfl
      · exact ⟨8, rfl, by decide, by decide⟩
      · exact ⟨3, rfl, by decide, by decide⟩
    refine ⟨S, p, m + 1, _, [.int n8], rfl, k1.live hS, hp, hP1, by omega, .cons (.int _) .nil, ⟨n8, rfl, hn0, by omega⟩, fun v2 H2 d2 k2 hP2 ⟨m2, j2, e, e2, q0, q1⟩ hv2 => ?_⟩
    subst e2
    obtain rfl := dp_int hv2
    have en : n8 = m2 := by
      have q := (List.cons.inj e).1
      injection q
    subst en
    refine ⟨_, _, rfl, rfl, ?_⟩
    have k12 := k1.trans k2
    refine ⟨⟨_, rfl⟩, _, rfl, 1 + j2, rfl, by omega, by omega, fun D hD => ?_⟩
    have hpD : p ≠ D := hP2.ne hD
    refine lcRM (K := K) (S := S) (T := [p]) (n := (1 + j2).toNat) walk_range (fun i H' => Purse H' p (m + 1 + 1 + i)) (fun i ds => ∃ ls : List Nat, ds = ls.map (fun c => .str ⟨#[c]⟩) ∧ ls.length = i ∧ ∀ c ∈ ls, 97 ≤ c ∧ c ≤ 122) hD (pin hp) (k12.live hS) (by omega) (fun _ _ => trivial) ⟨[], rfl, rfl, by simp⟩ hP2 (fun i H' o h => h.upd hpD) ?_ ?_
    · rintro i x Ha Hb ds Yes hi kp hL hPi ⟨ls, rfl, hls, hls2⟩ ⟨rfl, rfl⟩ yes
      refine ⟨rfl, _, rfl, D :: S, p, _, _, [.int 26], rfl, hL, List.mem_cons_of_mem _ hp, hPi, by omega, .cons (.int _) .nil, ⟨26, rfl, by decide, by decide⟩, fun v3 H3 d3 k3 hP3 ⟨m3, j3, e, e3, q3, q4⟩ hv3 => ?_⟩
      subst e3
      obtain rfl := dp_int hv3
      have en : (26 : Int) = m3 := by
        have q := (List.cons.inj e).1
        injection q
      subst en
      obtain ⟨c, hc, c1, c2⟩ := alpha_ix q3 q4
      refine ⟨alpha, j3, c, rfl, rfl, by rw [alpha_len, sizeLine_eq]; omega, hc, ?_⟩
      exact yes _ _ (.str ⟨#[c]⟩) k3 hP3 (.str _) ⟨ls ++ [c], by rw [List.map_append]; rfl, by rw [List.length_append, hls]; rfl, fun z hz => by
        rcases List.mem_append.mp hz with hz | hz
        · exact hls2 z hz
        · rw [List.mem_singleton.mp hz]
          exact ⟨c1, c2⟩⟩
    · rintro H3 ys ds kp hL hP3 ⟨ls, rfl, hls, hls2⟩ hl hle da dp
      have e1 : ls.map (fun c => PyData.str ⟨#[c]⟩) = (ls.map fun c => (⟨#[c]⟩ : Str)).map .str := by
        rw [List.map_map]
        rfl
      rw [e1] at da
      rw [da_strs da] at hl
      refine ⟨_, D, ls.map fun c => (⟨#[c]⟩ : Str), rfl, rfl, .inl (.inl (.inl hl)), ?_, ?_⟩
      · have e2 : ((ls.map fun c => (⟨#[c]⟩ : Str)).map (·.length)).sum = ls.length := by
          rw [List.map_map]
          have : ∀ l : List Nat, (l.map ((·.length) ∘ fun c => (⟨#[c]⟩ : Str))).sum = l.length := fun l => by
            induction l with
            | nil => rfl
            | cons x l ih =>
              rw [List.map_cons, List.sum_cons, ih, List.length_cons]
              show 1 + l.length = l.length + 1
              omega
          exact this ls
        rw [e2, List.length_map]
        show ls.length + ls.length * 0 ≤ 16777216
        omega
      · refine k _ _ (.str _) (k12.trans kp) (hP3.mono (by omega)) ⟨_, rfl, ?_⟩ (.str _)
        have e3 := join_letters ls
        refine word_of ?_ ?_ ?_
        · rw [e3]; omega
        · rw [e3]; omega
        · rw [e3]; exact hls2
def dFew8 (ds : List PyData) : Prop := ∃ n : Int, ds = [.int n] ∧ 0 ≤ n ∧ n ≤ 8
def rWordsU (ds : List PyData) (d : PyData) : Prop := ∃ (n : Int) (ws : List Str), ds = [.int n] ∧ d = eW ws ∧ ws.Nodup ∧ (ws.length : Int) = n ∧ ∀ x ∈ ws, Word x
theorem c_l_words (Y : Env K mg C) : Def P w K mg base (Str.ofString "_law_words") 4 ["_law_purse_here", "_law_many"] (spP K 200 dFew8 rWordsU) := by
  refine def_mk Y.t_l_words sc_l_words bb_l_words (fun vs H Q E h => ?_) (fun f cdv A outer s H vs Q E hr h => ?_)
  · obtain ⟨S, p, m, rest, ds, rfl, hS, hp, hP, hm, h, ⟨n, rfl, _⟩, k⟩ := h
    exact congrArg Nat.succ (DpAll.length h)
  · obtain ⟨S, p, m, rest, ds, rfl, hS, hp, hP, hm, h, ⟨n, rfl, hn0, hn8⟩, k⟩ := h
    obtain ⟨v0, rfl, e0⟩ := da1 h
    obtain rfl := dp_int e0
    refine ⟨_, (pss_cons (ps_par (i := 3) (j := 4) rfl sc_l_words.nd rfl rfl (by decide) rfl rfl (pa_cons (pe_def (c_l_word Y) (hr.mono (by decide)) (pa_cons (pv 0) pa_nil)) (pa_cons (pe_cmpR op_eq (pe_def (c_l_draw Y) (hr.mono (by decide)) (pa_cons (pv 0) (pa_cons pe_int pa_nil))) pe_int (nomark _)) pa_nil)) rfl)
    (pss_cons (ps_asg (pe_tup (pa_cons (pe_def (c_l_draw Y) (hr.mono (by decide)) (pa_cons (pv 0) (pa_cons (pe_callB call_len_str (by rfl) Y.n_len (by decide +kernel) (pa_cons (pv 3) pa_nil)) pa_nil))) (pa_cons (pe_lst pa_nil) pa_nil))) (K_pgtup (K := K) (n := 2) rfl rfl (pgs_cons (pg_name (i := 5) sc_l_words.nd rfl (Or.inl rfl)) (pgs_cons (pg_name (i := 6) sc_l_words.nd rfl (Or.inr rfl)) pgs_nil))))
    (pss_cons (ps_for PassesOwn.never rfl (pi_range1 rfl Y.n_range (pa_cons (pv 1) pa_nil)) (pg_name (i := 2) sc_l_words.nd rfl (Or.inl rfl))
    (pss_cons (ps_set (i := 7) sc_l_words.nd rfl (Or.inl rfl) (pe_op op_add_str (pe_op op_add_str (pe_slice sl_str (pv 3) po_none (po_some (pv 5))) (pe_ix ix_str pe_str (pe_def (c_l_draw Y) (hr.mono (by decide)) (pa_cons (pv 0) (pa_cons pe_int pa_nil))) (fun _ _ => rfl))) (pe_slice sl_str (pv 3) (po_some (pe_op op_add (pv 5) pe_int)) po_none)))
    (pss_cons (ps_if (pt_not (pt_val (pv 4))) (pss_one (ps_set (i := 7) sc_l_words.nd rfl (Or.inl rfl) (pe_def (c_l_word Y) (hr.mono (by decide)) (pa_cons (pv 0) pa_nil)))) pss_nil)
    (pss_cons (ps_if (pt_cmpR (K_in_seq (K := K) rfl) (pv 7) (pv 6) rfl) (pss_one (ps_set (i := 7) sc_l_words.nd rfl (Or.inl rfl) (pe_ix (K_ixL (K := K) rfl) (pe_lc (own := [("_law_letter", 8)]) rfl sc_l_words.nd (K_pil (K := K) rfl (pe_callTy (call_listS rfl) (by rfl) Y.n_list (by decide +kernel) (pa_cons pe_str pa_nil))) (blkOk_by (own := [("_law_letter", 8)]) (N := ["_law_purse_here", "_law_many", "_law_spin", "_law_base", "_law_near_here", "_law_spot", "_law_found", "_law_word_here", "_law_letter"]) (sc := defScope s_l_words) (by decide +kernel)) (fun _ _ _ _ _ => (pg_name (i := 8) sc_l_words.nd rfl (Or.inl rfl))) (fun _ _ _ _ _ => (pts_one (pt_cmpR (K_notIn_seq (K := K) rfl) (pv 8) (pv 6) rfl))) (fun _ _ _ _ _ => (pv 8))) pe_int (fun _ _ => rfl)))) pss_nil)
    (pss_one (ps_expr (K_bm (K := K) rfl PySem.F.plainAttrs_list PySem.F.slot_list_append PySem.F.type_list_append mt_append (pv 6) (pa_cons (pv 7) pa_nil))))))))
    (pss_one (ps_ret (pv 6)))))), ?_⟩
    refine ⟨_, rfl, S, p, m, [], [], rfl, hS, hp, hP, by omega, .nil, rfl, fun v1 H1 d1 k1 hP1 ⟨x, e1, hx⟩ hv1 => ?_⟩
    subst e1
    obtain rfl := dp_str hv1
    refine ⟨_, rfl, S, p, m + 12, _, [.int 3], rfl, k1.live hS, hp, hP1, by omega, .cons (.int _) .nil, ⟨3, rfl, by decide, by decide⟩, fun v2 H2 d2 k2 hP2 ⟨_, j2, _, e2, _, _⟩ hv2 => ?_⟩
    subst e2
    obtain rfl := dp_int hv2
    refine ⟨rfl, _, _, rfl, ?_⟩
    generalize decide (L2.V.int j2 = L2.V.int 0) = nb
    have hxl : 0 < x.length ∧ x.length ≤ 8 := ⟨hx.1, hx.2.1⟩
    have k12 := k1.trans k2
    refine ⟨_, rfl, _, rfl, x, rfl, by rw [sizeLine_eq]; omega, S, p, m + 12 + 1, _, [.int (x.length : Int)], rfl, k12.live hS, hp, hP2, by omega, .cons (.int _) .nil, ⟨_, rfl, by omega, by omega⟩, fun v3 H3 d3 k3 hP3 ⟨n3, j3, e3, e3', q3, q4⟩ hv3 => ?_⟩
    subst e3'
    obtain rfl := dp_int hv3
    have en : (x.length : Int) = n3 := by
      have q := (List.cons.inj e3).1
      injection q
    subst en
    obtain ⟨sp, rfl⟩ := Int.eq_ofNat_of_zero_le q3
    have hsp : sp < x.length := by omega
    have k13 := k12.trans k3
    refine ⟨Nat.zero_le _, fun fl nfl => ⟨by show 2 ≤ sizeLine; decide, fun tp ntp => ?_⟩⟩
    have ef : fl ≠ tp := ne_of_none upd_same ntp
    have hpf : p ≠ fl := hP3.ne nfl
    have hpt : p ≠ tp := (hP3.upd (o := .lst []) hpf).ne ntp
    refine ⟨tp, _, rfl, .inl (.inl upd_same), rfl, _, _, rfl, _, _, rfl, rfl, ?_⟩
    have kA : Kp [p] H (upd (upd H3 fl (.lst [])) tp (.tup [.int (sp : Int), .ref fl])) := (k13.new nfl).new ntp
    have fA : (upd (upd H3 fl (.lst [])) tp (.tup [.int (sp : Int), .ref fl])) fl = some (.lst []) := by rw [upd_ne ef, upd_same]
    have PA : Purse (upd (upd H3 fl (.lst [])) tp (.tup [.int (sp : Int), .ref fl])) p (m + 14) := ((hP3.upd hpf).upd hpt).mono (by omega)
    have nfl0 := k13.free nfl
    have flS : fl ∉ S := not_mem_of hS nfl0
    generalize (upd (upd H3 fl (.lst [])) tp (.tup [.int (sp : Int), .ref fl])) = HA at kA fA PA ⊢
    refine ⟨_, rfl, n, rfl, by omega, by omega, ?_⟩
    refine for_it (n := n.toNat) walk_range (fun i σ H' => ∃ (o2 o7 : Option L2.V) (ws : List Str), σ = [some (.ref p), some (.int n), o2, some (.str x), some (.bl nb), some (.int (sp : Int)), some (.ref fl), o7, none] ∧ Kp [p] H H' ∧ Purse H' p (m + 14 + 14 * i) ∧ H' fl = some (.lst (ws.map L2.V.str)) ∧ ws.length = i ∧ ws.Nodup ∧ ∀ x ∈ ws, Word x)
      ⟨_, _, [], rfl, kA, PA, fA, rfl, List.nodup_nil, by simp⟩ (fun _ _ _ _ _ => trivial) ?_ ?_
    · rintro i y σ Ha Hb hi ⟨o2, o7, ws, rfl, ka, Pa, fa, hwl, hwn, hww⟩ ⟨rfl, rfl⟩
      have Lf : Live (fl :: S) Hb := (ka.live hS).cons fa
      refine ⟨_, rfl, _, rfl, (sp : Int), rfl, x, rfl, by rw [sizeLine_eq]; omega, ?_⟩
      refine ⟨_, rfl, fl :: S, p, m + 14 + 14 * i, _, [.int 26], rfl, Lf, List.mem_cons_of_mem _ hp, Pa, by omega, .cons (.int _) .nil, ⟨26, rfl, by decide, by decide⟩, fun v4 H4 d4 k4 hP4 ⟨m4, j4, e4, e4', q5, q6⟩ hv4 => ?_⟩
      subst e4'
      obtain rfl := dp_int hv4
      have en : (26 : Int) = m4 := by
        have q := (List.cons.inj e4).1
        injection q
      subst en
      obtain ⟨c, hc, c1, c2⟩ := alpha_ix q5 q6
      have hl1 : (cutS x none (some (sp : Int))).length ≤ x.length := cutS_length x _ _
      have hl2 : (cutS x (some ((sp : Int) + 1)) none).length ≤ x.length := cutS_length x _ _
      have hcat : ∀ a b : Str, (a ++ b).length = a.length + b.length := fun a b => by
        show (a ++ b).cps.toList.length = a.cps.toList.length + b.cps.toList.length
        rw [cat_tl, List.length_append]
      have h1c : (⟨#[c]⟩ : Str).length = 1 := rfl
      refine ⟨alpha, j4, c, rfl, rfl, by rw [alpha_len, sizeLine_eq]; omega, hc, _, _, rfl, rfl, by rw [h1c, sizeLine_eq]; omega, ?_⟩
      refine ⟨_, rfl, _, rfl, _, _, rfl, rfl, _, rfl, x, rfl, by rw [sizeLine_eq]; omega, _, _, rfl, rfl, by rw [hcat, h1c, sizeLine_eq]; omega, ?_⟩
      have hw1 := word_mid hx hsp c1 c2
      generalize (cutS x none (some (sp : Int)) ++ (⟨#[c]⟩ : Str) ++ cutS x (some ((sp : Int) + 1)) none) = w1 at hw1 ⊢
      have k4a := ka.trans k4
      have f4 : H4 fl = some (.lst (ws.map L2.V.str)) := k4.at (by simpa using hpf.symm) fa
      refine ⟨_, rfl, _, rfl, ?_⟩
      refine ifS_set (v0 := .str w1) (fun v H' => ∃ w, v = .str w ∧ Word w ∧ Kp [p] H H' ∧ Purse H' p (m + 14 + 14 * i + 13) ∧ H' fl = some (.lst (ws.map L2.V.str))) rfl (fun _ => ⟨w1, rfl, hw1, k4a, hP4.mono (by omega), f4⟩) (fun _ Kq hK => ?_) ?_
      · refine ⟨_, rfl, fl :: S, p, m + 14 + 14 * i + 1, [], [], rfl, k4.live Lf, List.mem_cons_of_mem _ hp, hP4, by omega, .nil, rfl, fun v5 H5 d5 k5 hP5 ⟨w5, e5, hw5⟩ hv5 => ?_⟩
        subst e5
        obtain rfl := dp_str hv5
        exact hK _ _ ⟨w5, rfl, hw5, k4a.trans k5, hP5, k5.at (by simpa using hpf.symm) f4⟩
      rintro v5 H5 ⟨w5, rfl, hw5, k5, P5, f5⟩
      refine ⟨_, rfl, _, rfl, fl, _, rfl, .inl (.inl (.inl f5)), rfl, flat_strs _, _, rfl, ?_⟩
      have q7 : (if false = true then !inV (.str w5) (ws.map L2.V.str) else inV (.str w5) (ws.map L2.V.str)) = decide (w5 ∈ ws) := by rw [if_neg (by decide), inV_str]
      rw [q7]
      refine ifS_set (v0 := .str w5) (fun v H' => ∃ w, v = .str w ∧ Word w ∧ w ∉ ws ∧ Kp [p] H H' ∧ Purse H' p (m + 14 + 14 * i + 13) ∧ H' fl = some (.lst (ws.map L2.V.str))) rfl (fun hb => ⟨w5, rfl, hw5, of_decide_eq_false hb, k5, P5, f5⟩) (fun _ Kq hK => ?_) ?_
      · refine ⟨_, rfl, by rw [sizeLine_eq]; have := alpha_len; show alpha.length ≤ _; omega, fun al nal => ?_⟩
        have ea : (alpha.cps.toList.map fun c => L2.V.str ⟨#[c]⟩) = (alpha.cps.toList.map fun c => (⟨#[c]⟩ : Str)).map L2.V.str := by
          rw [List.map_map]
          rfl
        have ha1 : (upd H5 al (.lst ((alpha.cps.toList.map fun c => L2.V.str ⟨#[c]⟩)))) al = some (.lst ((alpha.cps.toList.map fun c => (⟨#[c]⟩ : Str)).map L2.V.str)) := by rw [upd_same, ea]
        have efa : fl ≠ al := ne_of_none f5 nal
        have f6 : (upd H5 al (.lst ((alpha.cps.toList.map fun c => L2.V.str ⟨#[c]⟩)))) fl = some (.lst (ws.map L2.V.str)) := by rw [upd_ne efa]; exact f5
        have k6 : Kp [p] H (upd H5 al (.lst ((alpha.cps.toList.map fun c => L2.V.str ⟨#[c]⟩)))) := k5.new nal
        have P6 : Purse (upd H5 al (.lst ((alpha.cps.toList.map fun c => L2.V.str ⟨#[c]⟩)))) p (m + 14 + 14 * i + 13) := P5.upd (P5.ne nal)
        have ecl : (Str.ofString "abcdefghijklmnopqrstuvwxyz") = alpha := rfl
        rw [ecl]
        generalize (upd H5 al (.lst ((alpha.cps.toList.map fun c => L2.V.str ⟨#[c]⟩)))) = H6 at ha1 f6 k6 P6 ⊢
        refine ⟨al, rfl, ⟨_, .inl (.inl ha1)⟩, fun D hD => ?_⟩
        refine lcT (K := K) (items := alpha.cps.toList.map fun c => (⟨#[c]⟩ : Str)) (S := []) walkW (fun x => decide (x ∉ ws)) (fun x => .str x) hD Live.nil (by rw [List.length_map]; show alpha.length ≤ _; rw [alpha_len]; decide) (fun H' kp => .inl (.inl (kp.same _ _ ha1))) ?_ ?_
        · rintro i z x1 Ha Hb Yes No hi kp hL ⟨rfl, y⟩ yes no
          obtain rfl := y z hi
          refine ⟨rfl, _, rfl, _, rfl, fl, _, rfl, .inl (.inl (.inl (kp.same _ _ f6))), rfl, flat_strs _, _, rfl, ?_⟩
          have q8 : (if true = true then !inV (.str z) (ws.map L2.V.str) else inV (.str z) (ws.map L2.V.str)) = decide (z ∉ ws) := by
            rw [if_pos rfl, inV_str]
            by_cases h : z ∈ ws <;> simp [h]
          rw [q8]
          by_cases h : z ∉ ws
          · exact if_yes (decide_eq_true h) ⟨_, rfl, yes _ _ .refl (decide_eq_true h) (.str z)⟩
          · exact if_no (decide_eq_false h) (no _ .refl (decide_eq_false h))
        · rintro H7 ys kp hL hl hle da dp
          have hfree := letter_free (ws := ws) (by omega)
          have g0 := List.getElem?_eq_getElem hfree
          obtain ⟨hm1, hm2⟩ := List.mem_filter.mp (List.getElem_mem hfree)
          obtain ⟨v7, hv7, hd7⟩ := da_get da g0
          obtain rfl := dp_str hd7
          refine ⟨D, ys, 0, _, rfl, rfl, .inl (.inl hl), atI_nat (j := 0) hv7, ?_⟩
          exact hK _ _ ⟨_, rfl, alpha_word hm1, of_decide_eq_true hm2, k6.trans kp.nil, P6.kp kp (by simp), kp.same _ _ f6⟩
      rintro v8 H8 ⟨w8, rfl, hw8, hn8', k8, P8, f8⟩
      refine ⟨_, rfl, .inl ⟨rfl, _, .inl (.inl f8)⟩, _, rfl, fl, _, _, rfl, rfl, f8, by rw [List.length_map, sizeLine_eq]; omega, ?_⟩
      refine ⟨_, _, ws ++ [w8], rfl, k8.put nfl0, (P8.upd hpf).mono (by omega), by rw [upd_same, List.map_append]; rfl, by rw [List.length_append, hwl]; rfl, ?_, fun z hz => ?_⟩
      · refine List.nodup_append.mpr ⟨hwn, List.pairwise_singleton _ _, fun a ha b hb e => ?_⟩
        rw [List.mem_singleton.mp hb] at e
        exact hn8' (e ▸ ha)
      · rcases List.mem_append.mp hz with hz | hz
        · exact hww z hz
        · rw [List.mem_singleton.mp hz]
          exact hw8
    · rintro σ Hb ⟨o2, o7, ws, rfl, ka, Pa, fa, hwl, hwn, hww⟩
      exact ⟨_, rfl, k _ _ (eW ws) ka (Pa.mono (by omega)) ⟨n, ws, rfl, rfl, hwn, by omega, hww⟩ (words_dp (.inl (.inl (hid_at fa flS))))⟩
end
end K41
namespace K41
open PySem PySem.Spec PyProof.Rows L2 PySem.W
/-- joined again behind both ways -/
theorem if_join {c : Bool} {ta tb : TE} {σ : L2.St} {H : Hp} {Q : VK} (Pq : V → Hp → Prop) (ha : c = true → ∀ Kq : VK, (∀ v H', Pq v H' → Kq v H') → ta σ H Kq) (hb : c = false → ∀ Kq : VK, (∀ v H', Pq v H' → Kq v H') → tb σ H Kq) (h : ∀ v H', Pq v H' → Q v H') :
    if c = true then ta σ H Q else tb σ H Q := by
  cases c with
  | true => exact ha rfl _ h
  | false => exact hb rfl _ h
theorem ifS_join {b : Bool} {ts : TS} {D : Ends} {σ : L2.St} {H : Hp} (Pq : L2.St → Hp → Prop) (h0 : b = false → Pq σ H) (hb : b = true → ∀ N : L2.St → Hp → Prop, (∀ σ' H', Pq σ' H' → N σ' H') → ts { D with nx := N } σ H) (h : ∀ σ' H', Pq σ' H' → D.nx σ' H') :
    if b = true then ts D σ H else tNext D σ H := by
  cases b with
  | true => exact hb rfl _ h
  | false => exact h _ _ (h0 rfl)
def EdgeOk (n : Int) (e : Int × Int) : Prop := 0 ≤ e.1 ∧ e.1 < e.2 ∧ e.2 < n
theorem other_ne {a j r : Int} (h0 : 0 ≤ j) (h1 : j < a) (r0 : 0 ≤ r) (r1 : r < a - 1) : 0 ≤ (j + 1 + r) % a ∧ (j + 1 + r) % a < a ∧ (j + 1 + r) % a ≠ j := by
  have q0 := Int.emod_nonneg (j + 1 + r) (show a ≠ 0 by omega)
  have q1 := Int.emod_lt_of_pos (j + 1 + r) (show 0 < a by omega)
  refine ⟨q0, q1, ?_⟩
  by_cases h : j + 1 + r < a
  · rw [Int.emod_eq_of_lt (by omega) h]
    omega
  · have e : (j + 1 + r) % a = (j + 1 + r - a) % a := (Int.sub_emod_right ..).symm
    rw [e, Int.emod_eq_of_lt (by omega) (by omega)]
    omega
section
variable {P : Program} {w : World} {K : PySem.W.Frag} {mg : Str → Option Value} {base : Heap} {C : Addr}
theorem walkIT {a : Addr} {ws : List Int} : Walk (Itt K a) ws.length (fun H => SqT K H a (ws.map L2.V.int)) (fun i H x H' => H' = H ∧ ∀ z, ws[i]? = some z → x = .int z) := by
  have e : ws.length = (ws.map L2.V.int).length := (List.length_map ..).symm
  rw [e]
  refine walk_tup.mono (fun _ h => h) (fun i H x H' _ _ y => ⟨y.1, fun it hit => ?_⟩)
  have q := y.2
  rw [List.getElem?_map, hit] at q
  exact (Option.some.inj q).symm
def spD (K : PySem.W.Frag) (D : List PyData → Prop) (R : List PyData → PyData → Prop) : Sp := fun vs H Q _ => ∃ S ds, Live S H ∧ DpAll K (hid S H) vs ds ∧ D ds ∧ ∀ v H' d, Kp [] H H' → R ds d → Dp K (hid S H') v d → Q v H'
/-- the draw asked: what comes back -/
theorem draw_is {n : Int} {d : PyData} {G : Hp} {v : L2.V} (h : rDraw [.int n] d) (hv : Dp K G v d) : ∃ j : Int, v = .int j ∧ 0 ≤ j ∧ j < n := by
  obtain ⟨m, j, e, rfl, h0, h1⟩ := h
  have en : n = m := by
    have q := (List.cons.inj e).1
    injection q
  subst en
  exact ⟨j, dp_int hv, h0, h1⟩
def dPairs (ds : List PyData) : Prop := ∃ a b : Int, ds = [.int a, .int b] ∧ 2 ≤ a ∧ a ≤ 8 ∧ a ≤ b + 1 ∧ b ≤ 6
def rPairs (ds : List PyData) (d : PyData) : Prop := ∃ (a b : Int) (ps : List (Int × Int)), ds = [.int a, .int b] ∧ d = eP ps ∧ (ps.length : Int) = b ∧ ∀ e ∈ ps, EdgeOk a e
theorem c_l_pairs_drawn (Y : Env K mg C) : Def P w K mg base (Str.ofString "_law_pairs_drawn") 3 ["_law_purse_here", "_law_points", "_law_many"] (spP K 40 dPairs rPairs) := by
  refine def_mk Y.t_l_pairs_drawn sc_l_pairs_drawn bb_l_pairs_drawn (fun vs H Q E h => ?_) (fun f cdv A outer s H vs Q E hr h => ?_)
  · obtain ⟨S, p, m, rest, ds, rfl, hS, hp, hP, hm, h, ⟨a, b, rfl, _⟩, k⟩ := h
    exact congrArg Nat.succ (DpAll.length h)
  · obtain ⟨S, p, m, rest, ds, rfl, hS, hp, hP, hm, h, ⟨a, b, rfl, ha2, ha8, hab, hb6⟩, k⟩ := h
    obtain ⟨v, u, rfl, e1, e2⟩ := da2 h
    obtain rfl := dp_int e1
    obtain rfl := dp_int e2
    refine ⟨_, (pss_cons (ps_setLc (i := 3) (own := [("_law_late", 7)]) rfl sc_l_pairs_drawn.nd rfl rfl (sw_true rfl rfl rfl (by decide +kernel)) (pi_range2 rfl Y.n_range (pa_cons pe_int (pa_cons (pv 1) pa_nil))) (blkOk_by (own := [("_law_late", 7)]) (N := ["_law_purse_here", "_law_points", "_law_many", "_law_found", "_law_spin", "_law_one", "_law_other", "_law_late"]) (sc := defScope s_l_pairs_drawn) (by decide +kernel)) (fun _ _ _ _ _ => (pg_name (i := 7) sc_l_pairs_drawn.nd rfl (Or.inl rfl))) (fun _ _ _ _ _ => pts_nil) (fun _ _ _ _ _ => (pe_tup (pa_cons (pe_def (c_l_draw Y) (hr.mono (by decide)) (pa_cons (pv 0) (pa_cons (pv 7) pa_nil))) (pa_cons (pv 7) pa_nil)))))
    (pss_cons (ps_for PassesOwn.never rfl (pi_range1 rfl Y.n_range (pa_cons (pe_op op_sub (pv 2) (pe_callB (K_len (K := K) rfl) (by rfl) Y.n_len (by decide +kernel) (pa_cons (pv 3) pa_nil))) pa_nil)) (pg_name (i := 4) sc_l_pairs_drawn.nd rfl (Or.inl rfl))
    (pss_cons (ps_set (i := 5) sc_l_pairs_drawn.nd rfl (Or.inl rfl) (pe_def (c_l_draw Y) (hr.mono (by decide)) (pa_cons (pv 0) (pa_cons (pv 1) pa_nil))))
    (pss_cons (ps_set (i := 6) sc_l_pairs_drawn.nd rfl (Or.inl rfl) (pe_op op_mod (pe_callTy call_int1 (by rfl) Y.n_int (by decide +kernel) (pa_cons (pe_op op_add (pe_op op_add (pv 5) pe_int) (pe_def (c_l_draw Y) (hr.mono (by decide)) (pa_cons (pv 0) (pa_cons (pe_op op_sub (pv 1) pe_int) pa_nil)))) pa_nil)) (pv 1)))
    (pss_one (ps_expr (K_bm (K := K) rfl PySem.F.plainAttrs_list PySem.F.slot_list_append PySem.F.type_list_append mt_append (pv 3) (pa_cons (pe_tup (pa_cons (pe_callB (call_min2 rfl) (by rfl) Y.n_min (by decide +kernel) (pa_cons (pv 5) (pa_cons (pv 6) pa_nil))) (pa_cons (pe_callB (call_max2 rfl) (by rfl) Y.n_max (by decide +kernel) (pa_cons (pv 5) (pa_cons (pv 6) pa_nil))) pa_nil))) pa_nil)))))))
    (pss_one (ps_ret (pv 3))))), ?_⟩
    refine ⟨_, rfl, _, _, rfl, by omega, fun D hD => ?_⟩
    have hpD : p ≠ D := hP.ne hD
    have hDS : D ∉ S := not_mem_of hS hD
    refine lcRM (K := K) (S := S) (T := [p]) (n := (a - 1).toNat) walk_range (fun i H' => Purse H' p (m + i)) (fun i ds => ∃ ps : List (Int × Int), ds = ps.map eP2 ∧ ps.length = i ∧ ∀ e ∈ ps, EdgeOk a e) hD (pin hp) hS (by omega) (fun _ _ => trivial) ⟨[], rfl, rfl, by simp⟩ hP (fun i H' o h => h.upd hpD) ?_ ?_
    · rintro i x Ha Hb ds Yes hi kp hL hPi ⟨ps, rfl, hps, hok⟩ ⟨rfl, rfl⟩ yes
      refine ⟨rfl, _, rfl, _, rfl, D :: S, p, _, _, [.int (1 + (i : Int))], rfl, hL, List.mem_cons_of_mem _ hp, hPi, by omega, .cons (.int _) .nil, ⟨_, rfl, by omega, by omega⟩, fun v3 H3 d3 k3 hP3 hr3 hv3 => ?_⟩
      obtain ⟨j, rfl, hj0, hj1⟩ := draw_is hr3 hv3
      refine ⟨_, rfl, by show 2 ≤ sizeLine; decide, fun T nT => ?_⟩
      refine yes _ _ (eP2 (j, 1 + (i : Int))) (k3.new nT) ((hP3.upd (hP3.ne nT)).mono (by omega)) (pair_dp (.inl (.inl (hid_at upd_same (not_mem_of (k3.live hL) nT))))) ⟨ps ++ [(j, 1 + (i : Int))], by rw [List.map_append]; rfl, by rw [List.length_append, hps]; rfl, fun e he => ?_⟩
      rcases List.mem_append.mp he with he | he
      · exact hok e he
      · rw [List.mem_singleton.mp he]
        exact ⟨hj0, hj1, by show 1 + (i : Int) < a; omega⟩
    · rintro H3 ys ds kp hL hP3 ⟨ps, rfl, hps, hok⟩ hl hle da dp
      have hyl : ys.length = ps.length := da_len da
      refine ⟨_, rfl, _, rfl, D, ys, rfl, .inl (.inl (.inl hl)), _, _, rfl, rfl, b - (ys.length : Int), rfl, by omega, by omega, ?_⟩
      refine for_it (n := (b - (ys.length : Int)).toNat) walk_range (fun i σ H' => ∃ (o4 o5 o6 : Option L2.V) (zs : List L2.V) (qs : List (Int × Int)), σ = [some (.ref p), some (.int a), some (.int b), some (.ref D), o4, o5, o6, none] ∧ Kp [p] H H' ∧ Purse H' p (m + 8 + 2 * i) ∧ H' D = some (.lst zs) ∧ DpAll K (hid (D :: S) H') zs (qs.map eP2) ∧ qs.length = ps.length + i ∧ ∀ e ∈ qs, EdgeOk a e)
        ⟨_, _, _, ys, ps, rfl, kp, hP3.mono (by omega), hl, da, rfl, hok⟩ (fun _ _ _ _ _ => trivial) ?_ ?_
      · rintro i y σ Ha Hb hi ⟨o4, o5, o6, zs, qs, rfl, ka, Pa, hz, hda, hql, hqo⟩ ⟨rfl, rfl⟩
        have LD : Live (D :: S) Hb := (ka.live hS).cons hz
        have hpd : p ∈ D :: S := List.mem_cons_of_mem _ hp
        refine ⟨_, rfl, _, rfl, D :: S, p, _, _, [.int a], rfl, LD, hpd, Pa, by omega, .cons (.int _) .nil, ⟨_, rfl, by omega, by omega⟩, fun v4 H4 d4 k4 hP4 hr4 hv4 => ?_⟩
        obtain ⟨j, rfl, hj0, hj1⟩ := draw_is hr4 hv4
        refine ⟨_, rfl, _, _, rfl, rfl, _, rfl, _, rfl, _, _, rfl, rfl, D :: S, p, _, _, [.int (a - 1)], rfl, k4.live LD, hpd, hP4, by omega, .cons (.int _) .nil, ⟨_, rfl, by omega, by omega⟩, fun v5 H5 d5 k5 hP5 hr5 hv5 => ?_⟩
        obtain ⟨r, rfl, hr0, hr1⟩ := draw_is hr5 hv5
        refine ⟨_, _, rfl, rfl, .inl ⟨_, rfl, _, rfl, _, _, rfl, rfl, by show 0 < a; omega, ?_⟩⟩
        obtain ⟨o0, o1, one⟩ := other_ne hj0 hj1 hr0 hr1
        have k45 := k4.trans k5
        have hz5 : H5 D = some (.lst zs) := k45.at (by simpa using hpD.symm) hz
        refine ⟨_, rfl, .inl ⟨rfl, _, .inl (.inl hz5)⟩, _, rfl, _, rfl, _, _, rfl, _, rfl, _, rfl, _, _, rfl, by show 2 ≤ sizeLine; decide, fun T nT => ?_⟩
        have eDT : D ≠ T := ne_of_none hz5 nT
        have hzl : zs.length = qs.length := da_len hda
        refine ⟨D, zs, .ref T, rfl, rfl, by rw [upd_ne eDT]; exact hz5, by rw [sizeLine_eq]; omega, ?_⟩
        refine ⟨_, _, _, zs ++ [.ref T], qs ++ [((if (j + 1 + r) % a < j then (j + 1 + r) % a else j), (if (j + 1 + r) % a > j then (j + 1 + r) % a else j))], rfl, (((ka.trans k45).new nT).put hD), ((hP5.upd (hP5.ne nT)).upd hpD).mono (by omega), upd_same, ?_, by rw [List.length_append, hql]; rfl, fun e he => ?_⟩
        · rw [hid_in (List.mem_cons_self ..), List.map_append]
          refine DpAll.append (DpAll.mono ((k45.hid fun b hb => by rw [List.mem_singleton.mp hb]; exact hpd).trans (kp_new nT).hid0) hda) (.cons (pair_dp (.inl (.inl (hid_at upd_same ?_)))) .nil)
          exact not_mem_of (k45.live LD) nT
        · rcases List.mem_append.mp he with he | he
          · exact hqo e he
          · rw [List.mem_singleton.mp he]
            refine ⟨?_, ?_, ?_⟩
            · show 0 ≤ (if (j + 1 + r) % a < j then (j + 1 + r) % a else j)
              split <;> omega
            · show (if (j + 1 + r) % a < j then (j + 1 + r) % a else j) < (if (j + 1 + r) % a > j then (j + 1 + r) % a else j)
              split <;> split <;> omega
            · show (if (j + 1 + r) % a > j then (j + 1 + r) % a else j) < a
              split <;> omega
      · rintro σ Hb ⟨o4, o5, o6, zs, qs, rfl, ka, Pa, hz, hda, hql, hqo⟩
        exact ⟨_, rfl, k _ _ (eP qs) ka (Pa.mono (by omega)) ⟨a, b, qs, rfl, rfl, by omega, hqo⟩ (.lst (.inl (.inl (hid_at hz hDS))) (DpAll.mono hid_tail hda))⟩
def dTies (ds : List PyData) : Prop := ∃ ps : List (Int × Int), ds = [eP ps] ∧ ps.length ≤ 6
def rTiesP (ds : List PyData) (d : PyData) : Prop := ∃ ps es : List (Int × Int), ds = [eP ps] ∧ d = eP es ∧ es.length ≤ 100 ∧ ∀ e ∈ es, EdgeOk ps.length e
theorem pair_at {H : Hp} {a : Addr} {xs : List L2.V} {ps : List (Int × Int)} (hl : SqL K H a xs) (hda : DpAll K H xs (ps.map eP2)) {i : Nat} (hi : i < ps.length) : ∃ q, xs[i]? = some (.ref q) ∧ SqT K H q ([ps[i].1, ps[i].2].map L2.V.int) := by
  obtain ⟨v, hv, hd⟩ := da_get hda (List.getElem?_eq_getElem hi)
  obtain ⟨q, rfl, hq⟩ := dp_pair hd
  exact ⟨q, hv, hq⟩
theorem c_l_ties_of_pairs (Y : Env K mg C) : Def P w K mg base (Str.ofString "_law_ties_of_pairs") 1 ["_law_pairs"] (spD K dTies rTiesP) := by
  refine def_mk Y.t_l_ties_of_pairs sc_l_ties_of_pairs bb_l_ties_of_pairs (fun vs H Q E h => ?_) (fun f cdv A outer s H vs Q E hr h => ?_)
  · obtain ⟨S, ds, _, h, ⟨ps, rfl, _⟩, _⟩ := h
    exact DpAll.length h
  · obtain ⟨S, ds, hS, h, ⟨ps, rfl, hp6⟩, k⟩ := h
    obtain ⟨v, rfl, h1⟩ := da1 h
    obtain ⟨a, xs, rfl, hl, hda⟩ := dp_list h1
    have hxl : xs.length = ps.length := da_len hda
    have hl0 : SqL K H a xs := hid_le.seq hl
    have hda0 : DpAll K H xs (ps.map eP2) := DpAll.mono hid_le hda
    refine ⟨_, (pss_cons (ps_set (i := 1) sc_l_ties_of_pairs.nd rfl (Or.inl rfl) (pe_lst pa_nil))
    (pss_cons (ps_for PassesOwn.never rfl (pi_range1 rfl Y.n_range (pa_cons (pe_callB (K_len (K := K) rfl) (by rfl) Y.n_len (by decide +kernel) (pa_cons (pv 0) pa_nil)) pa_nil)) (pg_name (i := 2) sc_l_ties_of_pairs.nd rfl (Or.inl rfl))
    (pss_one (ps_for PassesOwn.never rfl (pi_range2 rfl Y.n_range (pa_cons (pe_op op_add (pv 2) pe_int) (pa_cons (pe_callB (K_len (K := K) rfl) (by rfl) Y.n_len (by decide +kernel) (pa_cons (pv 0) pa_nil)) pa_nil))) (pg_name (i := 3) sc_l_ties_of_pairs.nd rfl (Or.inr rfl))
    (pss_one (ps_if (pt_cmpR op_eq (pe_callB (K_len (K := K) rfl) (by rfl) Y.n_len (by decide +kernel) (pa_cons (pe_lc (own := [("_law_point", 4)]) rfl sc_l_ties_of_pairs.nd (K_pit (K := K) rfl (pe_ix (K_ixL (K := K) rfl) (pv 0) (pv 2) (fun _ _ => rfl))) (blkOk_by (own := [("_law_point", 4)]) (N := ["_law_pairs", "_law_found", "_law_first", "_law_late", "_law_point"]) (sc := defScope s_l_ties_of_pairs) (by decide +kernel)) (fun _ _ _ _ _ => (pg_name (i := 4) sc_l_ties_of_pairs.nd rfl (Or.inl rfl))) (fun _ _ _ _ _ => (pts_one (pt_cmpR (K_in_seq (K := K) rfl) (pv 4) (pe_ix (K_ixL (K := K) rfl) (pv 0) (pv 3) (fun _ _ => rfl)) rfl))) (fun _ _ _ _ _ => (pv 4))) pa_nil)) pe_int (nomark _)) (pss_one (ps_expr (K_bm (K := K) rfl PySem.F.plainAttrs_list PySem.F.slot_list_append PySem.F.type_list_append mt_append (pv 1) (pa_cons (pe_tup (pa_cons (pv 2) (pa_cons (pv 3) pa_nil))) pa_nil)))) pss_nil)))))
    (pss_one (ps_ret (pv 1))))), ?_⟩
    refine ⟨Nat.zero_le _, fun l nl => ?_⟩
    have hlS : l ∉ S := not_mem_of hS nl
    refine ⟨_, rfl, a, xs, rfl, .inl ((same_new nl).seq hl0), (xs.length : Int), rfl, by omega, by omega, ?_⟩
    have en : ((xs.length : Nat) : Int).toNat = ps.length := by omega
    rw [en]
    refine for_it (n := ps.length) walk_range (fun i σ H' => ∃ (o2 o3 : Option L2.V) (ys : List L2.V) (es : List (Int × Int)), σ = [some (.ref a), some (.ref l), o2, o3, none] ∧ Kp [] H H' ∧ H' l = some (.lst ys) ∧ DpAll K (hid (l :: S) H') ys (es.map eP2) ∧ es.length ≤ 6 * i ∧ ∀ e ∈ es, EdgeOk ps.length e)
      ⟨_, _, [], [], rfl, kp_new nl, upd_same, .nil, Nat.le_refl _, by simp⟩ (fun _ _ _ _ _ => trivial) ?_ ?_
    · rintro i y σ Ha Hb hi ⟨o2, o3, ys, es, rfl, ka, hy, hde, hel, heo⟩ ⟨rfl, rfl⟩
      refine ⟨_, rfl, _, _, rfl, rfl, _, rfl, a, xs, rfl, .inl (ka.same.seq hl0), _, _, rfl, by omega, ?_⟩
      refine for_it (n := ((xs.length : Int) - (0 + (i : Int) + 1)).toNat) walk_range (fun j σ H' => ∃ (o3 : Option L2.V) (ys : List L2.V) (es : List (Int × Int)), σ = [some (.ref a), some (.ref l), some (.int (0 + (i : Int))), o3, none] ∧ Kp [] H H' ∧ H' l = some (.lst ys) ∧ DpAll K (hid (l :: S) H') ys (es.map eP2) ∧ es.length ≤ 6 * i + j ∧ ∀ e ∈ es, EdgeOk ps.length e)
        ⟨_, ys, es, rfl, ka, hy, hde, by omega, heo⟩ (fun _ _ _ _ _ => trivial) ?_ ?_
      · rintro j y σ Hc Hd hj ⟨o3, ys, es, rfl, kc, hy, hde, hel, heo⟩ ⟨rfl, rfl⟩
        have hi2 : i < ps.length := hi
        obtain ⟨q1, hq1, ht1⟩ := pair_at (kc.same.seq hl0) (DpAll.mono kc.same hda0) hi2
        have hjj : i + 1 + j < ps.length := by omega
        obtain ⟨q2, hq2, ht2⟩ := pair_at (kc.same.seq hl0) (DpAll.mono kc.same hda0) hjj
        refine ⟨_, rfl, _, rfl, a, xs, _, _, rfl, rfl, kc.same.seq hl0, (show atI xs (0 + (i : Int)) = _ by rw [Int.zero_add]; exact atI_nat hq1), q1, rfl, ⟨_, ht1⟩, fun D hD => ?_⟩
        refine lcT (K := K) (items := [ps[i].1, ps[i].2]) (S := S) walkIT (fun z => decide (z ∈ [ps[i + 1 + j].1, ps[i + 1 + j].2])) (fun z => .int z) hD (kc.live hS) (by show 2 ≤ 100000; decide) (fun H' kp => Same.tup kp.same ht1) ?_ ?_
        · rintro z x x1 H4 H5 Yes No hz kp hL ⟨rfl, y⟩ yes no
          obtain rfl := y x hz
          have kcp := kc.trans kp
          refine ⟨rfl, _, rfl, _, rfl, _, rfl, a, xs, _, _, rfl, rfl, kcp.same.seq hl0, (show atI xs (0 + (i : Int) + 1 + (j : Int)) = _ by rw [show 0 + (i : Int) + 1 + (j : Int) = ((i + 1 + j : Nat) : Int) by omega]; exact atI_nat hq2), q2, _, rfl, .inr (Same.tup kp.same ht2), rfl, flat_ints _, _, rfl, ?_⟩
          have q7 : (if false = true then !inV (.int x) ([ps[i + 1 + j].1, ps[i + 1 + j].2].map L2.V.int) else inV (.int x) ([ps[i + 1 + j].1, ps[i + 1 + j].2].map L2.V.int)) = decide (x ∈ [ps[i + 1 + j].1, ps[i + 1 + j].2]) := by rw [if_neg (by decide), inV_int]
          rw [q7]
          by_cases h : x ∈ [ps[i + 1 + j].1, ps[i + 1 + j].2]
          · exact if_yes (decide_eq_true h) ⟨_, rfl, yes _ _ .refl (decide_eq_true h) (.int x)⟩
          · exact if_no (decide_eq_false h) (no _ .refl (decide_eq_false h))
        · intro H6 zs kp hL hl6 hle da dp
          refine ⟨D, zs, rfl, .inl (.inl (.inl hl6)), rfl, _, rfl, ?_⟩
          have hy6 : H6 l = some (.lst ys) := kp.same _ _ hy
          have hd6 : DpAll K (hid (l :: S) H6) ys (es.map eP2) := DpAll.mono kp.hid0 hde
          refine ite2 (fun _ => ?_) (fun _ => ?_)
          · refine ⟨_, rfl, .inl ⟨rfl, _, .inl (.inl hy6)⟩, _, rfl, _, rfl, by show 2 ≤ sizeLine; decide, fun T nT => ?_⟩
            have elT : l ≠ T := ne_of_none hy6 nT
            have hyl : ys.length = es.length := da_len hd6
            refine ⟨l, ys, .ref T, rfl, rfl, by rw [upd_ne elT]; exact hy6, by rw [sizeLine_eq]; omega, ?_⟩
            refine ⟨_, ys ++ [.ref T], es ++ [(0 + (i : Int), 0 + (i : Int) + 1 + (j : Int))], rfl, ((kc.trans kp).new nT).put nl, upd_same, ?_, by rw [List.length_append, List.length_singleton]; omega, fun e he => ?_⟩
            · rw [hid_in (List.mem_cons_self ..), List.map_append]
              refine DpAll.append (DpAll.mono (kp_new nT).hid0 hd6) (.cons (pair_dp (.inl (.inl (hid_at upd_same ?_)))) .nil)
              intro z
              rcases List.mem_cons.mp z with z | z
              · exact elT z.symm
              · exact not_mem_of hL nT z
            · rcases List.mem_append.mp he with he | he
              · exact heo e he
              · rw [List.mem_singleton.mp he]
                exact ⟨by show 0 ≤ 0 + (i : Int); omega, by show 0 + (i : Int) < 0 + (i : Int) + 1 + (j : Int); omega, by show 0 + (i : Int) + 1 + (j : Int) < _; omega⟩
          · exact ⟨_, ys, es, rfl, kc.trans kp, hy6, hd6, by omega, heo⟩
      · rintro σ Hc ⟨o3, ys, es, rfl, kc, hy, hde, hel, heo⟩
        exact ⟨_, _, ys, es, rfl, kc, hy, hde, by omega, heo⟩
    · rintro σ Hb ⟨o2, o3, ys, es, rfl, ka, hy, hde, hel, heo⟩
      exact ⟨_, rfl, k _ _ (eP es) ka ⟨ps, es, rfl, rfl, by omega, heo⟩ (.lst (.inl (.inl (hid_at hy hlS))) (DpAll.mono hid_tail hde))⟩
end
end K41
namespace K41
open PySem PySem.Spec PyProof.Rows L2 PySem.W
section
variable {X : Cx} {K : PySem.W.Frag}
/-- two lists, wherever they stand -/
def rCatL (K : PySem.W.Frag) : R2 := fun x y H Q => ∃ (l b : Addr) (xs zs : List V), x = .ref l ∧ y = .ref b ∧ SqL K H l xs ∧ SqL K H b zs ∧ xs.length + zs.length ≤ sizeLine ∧ ∀ p, H p = none → Q (.ref p) (upd H p (.lst (xs ++ zs)))
theorem op_catL : OpR X (binaryOp .Add) (rCatL X.K) := by
  intro pins s σ H x y v u Q I rx ry h
  obtain ⟨l, b, xs, zs, rfl, rfl, hH, hB, hz, q⟩ := h
  cases rx
  cases ry
  obtain ⟨its, r, ⟨o, n, e, hc, hd, hs⟩, z⟩ := I.list hH
  obtain ⟨its2, r2, ⟨o2, n2, e2, hc2, hd2, hs2⟩, z2⟩ := I.list hB
  obtain ⟨ocls, odict, odata, osl⟩ := o
  obtain ⟨ocls2, odict2, odata2, osl2⟩ := o2
  simp only at hc hd hs hc2 hd2 hs2
  subst hc hd hs hc2 hd2 hs2
  have hl := r.length
  have hl2 := r2.length
  refine concat_meets ⟨_, e, rfl⟩ ⟨_, e2, rfl⟩ noFill_list_add seq_list_add PySem.F.slot_list_add PySem.F.entry_list_add (PySem.F.args_list_add_2 _ _) (list_addW l b its.toArray its2.toArray n n2 none none osl osl2 (by rw [List.size_toArray, List.size_toArray]; omega)) ⟨e, e2, ?_⟩
  have ea : its.toArray ++ its2.toArray = (its ++ its2).toArray := by simp
  rw [ea]
  exact ⟨.ref _, _, I.lnew (t' := s.toks) (r.append r2) (by rw [List.length_append]; omega), rfl, q _ I.fresh⟩
structure RCat (K : PySem.W.Frag) (x y : V) (H : Hp) (Q : VK) : Prop where
  go : rCatL K x y H Q
theorem K_cat (h : X.K = K) : OpR X (binaryOp .Add) (RCat K) := by
  subst h
  exact fun pins s σ H x y v u Q I rx ry z => op_catL pins s σ H x y v u Q I rx ry z.go
/-- data joined -/
theorem cat_ans {S : List Addr} {H : Hp} {x y : V} {ds es : List PyData} {Q : VK} (hS : Live S H) (hx : Dp K (hid S H) x (.list ds)) (hy : Dp K (hid S H) y (.list es)) (hlen : ds.length + es.length ≤ 100000)
    (k : ∀ p xs, H p = none → xs.length = ds.length + es.length → DpAll K (hid S H) xs (ds ++ es) → Dp K (hid S (upd H p (.lst xs))) (.ref p) (.list (ds ++ es)) → Q (.ref p) (upd H p (.lst xs))) : RCat K x y H Q := by
  obtain ⟨a, xs, rfl, h1, h2⟩ := dp_list hx
  obtain ⟨b, ys, rfl, h3, h4⟩ := dp_list hy
  have l1 := DpAll.length h2
  have l2 := DpAll.length h4
  refine ⟨a, b, xs, ys, rfl, rfl, hid_le.seq h1, hid_le.seq h3, by rw [sizeLine_eq]; omega, fun p np => ?_⟩
  refine k p _ np (by rw [List.length_append, l1, l2]) (DpAll.append h2 h4) (.lst (.inl (.inl (hid_at upd_same (not_mem_of hS np)))) (DpAll.mono (kp_new np).hid0 (DpAll.append h2 h4)))
end
end K41
namespace K41
open PySem PySem.Spec PyProof.Rows L2 PySem.W
section
variable {P : Program} {w : World} {K : PySem.W.Frag} {mg : Str → Option Value} {base : Heap} {C : Addr}
def OE (x : Str) : Prop := x = "odd" ∨ x = "even"
def spWishesBy (K : PySem.W.Frag) : Sp := fun vs H Q _ => ∃ (S : List Addr) (v u : L2.V) (ps : List (Int × Int)) (hs : List Int), vs = [v, u] ∧ Live S H ∧ Dp K (hid S H) v (eP ps) ∧ Dp K (hid S H) u (eZ hs) ∧ ps.length ≤ 6 ∧ (∀ e ∈ ps, EdgeOk hs.length e) ∧
  ∀ (a : Addr) (H' : Hp) (ws : List Str), Kp [] H H' → H a = none → H' a = some (.lst (ws.map L2.V.str)) → ws.length = ps.length → (∀ x ∈ ws, OE x) → Q (.ref a) H'
theorem int_at {hs : List Int} {i : Int} (h0 : 0 ≤ i) (h1 : i < hs.length) : ∃ z, atI (hs.map L2.V.int) i = some (.int z) := by
  obtain ⟨j, rfl⟩ := Int.eq_ofNat_of_zero_le h0
  have hj : j < hs.length := by omega
  exact ⟨hs[j], atI_nat (by rw [List.getElem?_map, List.getElem?_eq_getElem hj]; rfl)⟩
theorem c_l_wishes_by (Y : Env K mg C) : Def P w K mg base (Str.ofString "_law_wishes_by") 1 ["_law_pairs", "_law_highs"] (spWishesBy K) := by
  refine def_mk Y.t_l_wishes_by sc_l_wishes_by bb_l_wishes_by (fun vs H Q E h => ?_) (fun f cdv A outer s H vs Q E hr h => ?_)
  · obtain ⟨S, v, u, ps, hs, rfl, _⟩ := h
    rfl
  · obtain ⟨S, v, u, ps, hs, rfl, hS, h1, h2, hp6, hok, k⟩ := h
    obtain ⟨a, xs, rfl, hl, hda⟩ := dp_list h1
    obtain ⟨b, rfl, hb⟩ := dp_ints h2
    have hl0 : SqL K H a xs := hid_le.seq hl
    have hb0 : SqL K H b _ := hid_le.seq hb
    refine ⟨_, (pss_one (ps_ret (pe_lc (own := [("_law_one", 2), ("_law_other", 3)]) rfl sc_l_wishes_by.nd (K_pil (K := K) rfl (pv 0)) (blkOk_by (own := [("_law_one", 2), ("_law_other", 3)]) (N := ["_law_pairs", "_law_highs", "_law_one", "_law_other"]) (sc := defScope s_l_wishes_by) (by decide +kernel)) (fun _ _ _ _ _ => (K_pgtup (K := K) (n := 2) rfl rfl (pgs_cons (pg_name (i := 2) sc_l_wishes_by.nd rfl (Or.inl rfl)) (pgs_cons (pg_name (i := 3) sc_l_wishes_by.nd rfl (Or.inl rfl)) pgs_nil)))) (fun _ _ _ _ _ => pts_nil) (fun _ _ _ _ _ => (pe_ifExp (pt_cmpR op_eq (pe_ix (K_ixL (K := K) rfl) (pv 1) (pv 2) (fun _ _ => rfl)) (pe_ix (K_ixL (K := K) rfl) (pv 1) (pv 3) (fun _ _ => rfl)) (nomark _)) pe_str pe_str))))), ?_⟩
    refine ⟨_, rfl, a, rfl, ⟨_, hl0⟩, fun D hD => ?_⟩
    refine lcRM (K := K) (S := S) (T := []) (walkD hda) (fun _ _ => True) (fun i ds => ∃ ws : List Str, ds = ws.map .str ∧ ws.length = i ∧ ∀ x ∈ ws, OE x) hD (by simp) hS (by omega) (fun H' kp => kp.same.seq hl0) ⟨[], rfl, rfl, by simp⟩ trivial (fun _ _ _ _ => trivial) ?_ ?_
    · rintro i x Ha Hb ds Yes hi kp hL _ ⟨ws, rfl, hws, hwo⟩ ⟨rfl, y⟩ yes
      obtain ⟨q, rfl, hq⟩ := dp_pair (y _ (List.getElem?_eq_getElem hi))
      obtain ⟨o0, o1, o2⟩ := hok _ (List.getElem_mem hi)
      obtain ⟨z1, hz1⟩ := int_at (hs := hs) (i := ps[i].1) o0 (by omega)
      obtain ⟨z2, hz2⟩ := int_at (hs := hs) (i := ps[i].2) (by omega) o2
      refine ⟨q, _, rfl, Same.tup (hid_le.trans kp.same) hq, rfl, _, _, rfl, _, _, rfl, rfl, rfl, _, rfl, _, rfl, b, _, _, _, rfl, rfl, kp.same.seq hb0, hz1, _, rfl, _, rfl, b, _, _, _, rfl, rfl, kp.same.seq hb0, hz2, rfl, _, rfl, ?_⟩
      refine if_tC fun v hv => ?_
      obtain ⟨o, rfl, ho⟩ : ∃ o : Str, v = .str o ∧ OE o := by
        rcases hv with rfl | rfl
        · exact ⟨_, rfl, .inl rfl⟩
        · exact ⟨_, rfl, .inr rfl⟩
      refine yes _ _ (.str o) .refl trivial (.str o) ⟨ws ++ [o], by rw [List.map_append]; rfl, by rw [List.length_append, hws]; rfl, fun x hx => ?_⟩
      rcases List.mem_append.mp hx with hx | hx
      · exact hwo x hx
      · rw [List.mem_singleton.mp hx]
        exact ho
    · rintro H3 ys ds kp hL _ ⟨ws, rfl, hws, hwo⟩ hl3 hle da dp
      rw [da_strs da] at hl3
      exact k D H3 ws kp hD hl3 hws hwo
def dOne6 (ds : List PyData) : Prop := ∃ n : Int, ds = [.int n] ∧ 1 ≤ n ∧ n ≤ 6
def PartD (n : Int) (d : PyData) : Prop := ∃ (es : List (Int × Int)) (ws : List Str), d = .list [.int n, eP es, eW ws] ∧ (∀ e ∈ es, EdgeOk n e) ∧ (ws.length : Int) = n ∧ (∀ x ∈ ws, OE x) ∧ es.length ≤ 100
def rPart (ds : List PyData) (d : PyData) : Prop := ∃ n : Int, ds = [.int n] ∧ PartD n d
theorem c_l_paired_part (Y : Env K mg C) : Def P w K mg base (Str.ofString "_law_paired_part") 4 ["_law_purse_here", "_law_many"] (spP K 100 dOne6 rPart) := by
  refine def_mk Y.t_l_paired_part sc_l_paired_part bb_l_paired_part (fun vs H Q E h => ?_) (fun f cdv A outer s H vs Q E hr h => ?_)
  · obtain ⟨S, p, m, rest, ds, rfl, hS, hp, hP, hm, h, ⟨n, rfl, _⟩, k⟩ := h
    exact congrArg Nat.succ (DpAll.length h)
  · obtain ⟨S, p, m, rest, ds, rfl, hS, hp, hP, hm, h, ⟨n, rfl, hn1, hn6⟩, k⟩ := h
    obtain ⟨v0, rfl, e0⟩ := da1 h
    obtain rfl := dp_int e0
    refine ⟨_, (pss_cons (ps_set (i := 2) sc_l_paired_part.nd rfl (Or.inl rfl) (pe_ifExp (pt_cmpR op_eq (pv 1) pe_int (nomark _)) pe_int (pe_op op_add pe_int (pe_def (c_l_draw Y) (hr.mono (by decide)) (pa_cons (pv 0) (pa_cons (pe_callB (call_min2 rfl) (by rfl) Y.n_min (by decide +kernel) (pa_cons pe_int (pa_cons (pe_op op_sub (pv 1) pe_int) pa_nil))) pa_nil))))))
    (pss_cons (ps_set (i := 3) sc_l_paired_part.nd rfl (Or.inl rfl) (pe_def (c_l_pairs_drawn Y) (hr.mono (by decide)) (pa_cons (pv 0) (pa_cons (pv 2) (pa_cons (pv 1) pa_nil)))))
    (pss_cons (ps_set (i := 4) sc_l_paired_part.nd rfl (Or.inl rfl) (pe_def (c_l_wishes_by Y) (hr.mono (by decide)) (pa_cons (pv 3) (pa_cons (pe_lc (own := [("_law_point", 6)]) rfl sc_l_paired_part.nd (pi_range1 rfl Y.n_range (pa_cons (pv 2) pa_nil)) (blkOk_by (own := [("_law_point", 6)]) (N := ["_law_purse_here", "_law_many", "_law_points", "_law_pairs", "_law_wants", "_law_at", "_law_point"]) (sc := defScope s_l_paired_part) (by decide +kernel)) (fun _ _ _ _ _ => (pg_name (i := 6) sc_l_paired_part.nd rfl (Or.inl rfl))) (fun _ _ _ _ _ => pts_nil) (fun _ _ _ _ _ => (pe_def (c_l_draw Y) (hr.mono (by decide)) (pa_cons (pv 0) (pa_cons pe_int pa_nil))))) pa_nil))))
    (pss_cons (ps_if (pt_cmpR op_eq (pe_def (c_l_draw Y) (hr.mono (by decide)) (pa_cons (pv 0) (pa_cons pe_int pa_nil))) pe_int (nomark _)) (pss_cons (ps_set (i := 5) sc_l_paired_part.nd rfl (Or.inl rfl) (pe_def (c_l_draw Y) (hr.mono (by decide)) (pa_cons (pv 0) (pa_cons (pe_callB (K_len (K := K) rfl) (by rfl) Y.n_len (by decide +kernel) (pa_cons (pv 4) pa_nil)) pa_nil))))
    (pss_one (ps_asg (pe_ifExp (pt_cmpR op_eq (pe_ix (K_ixL (K := K) rfl) (pv 4) (pv 5) (fun _ _ => rfl)) pe_str (nomark _)) pe_str pe_str) (pg_sub (pv 4) (pv 5) set_list)))) pss_nil)
    (pss_one (ps_ret (pe_lst (pa_cons (pe_callB (K_len (K := K) rfl) (by rfl) Y.n_len (by decide +kernel) (pa_cons (pv 3) pa_nil)) (pa_cons (pe_def (c_l_ties_of_pairs Y) (hr.mono (by decide)) (pa_cons (pv 3) pa_nil)) (pa_cons (pv 4) pa_nil)))))))))), ?_⟩
    refine ⟨_, rfl, rfl, _, rfl, ?_⟩
    rw [int_eqb]
    refine if_join (fun v H' => ∃ a : Int, v = .int a ∧ 2 ≤ a ∧ a ≤ 6 ∧ a ≤ n + 1 ∧ Kp [p] H H' ∧ Purse H' p (m + 1)) (fun hb Kq hK => hK _ _ ⟨2, rfl, by omega, by omega, by omega, .refl, hP.mono (by omega)⟩) (fun hb Kq hK => ?_) ?_
    · have hn : ¬ n = 1 := of_decide_eq_false hb
      refine ⟨_, rfl, _, rfl, _, _, rfl, rfl, _, _, rfl, ?_⟩
      refine ⟨S, p, m, _, [.int (if n - 1 < 4 then n - 1 else 4)], rfl, hS, hp, hP, by omega, .cons (.int _) .nil, ⟨_, rfl, by split <;> omega, by split <;> omega⟩, fun v1 H1 d1 k1 hP1 hr1 hv1 => ?_⟩
      obtain ⟨j, rfl, hj0, hj1⟩ := draw_is hr1 hv1
      refine ⟨_, _, rfl, rfl, hK _ _ ⟨3 + j, rfl, by omega, ?_, ?_, k1, hP1⟩⟩
      · split at hj1 <;> omega
      · split at hj1 <;> omega
    rintro v1 H1 ⟨a, rfl, ha2, ha6, han, k1, hP1⟩
    refine ⟨_, rfl, _, rfl, _, rfl, S, p, m + 1, _, [.int a, .int n], rfl, k1.live hS, hp, hP1, by omega, .cons (.int _) (.cons (.int _) .nil), ⟨a, n, rfl, ha2, by omega, han, hn6⟩, fun v2 H2 d2 k2 hP2 ⟨a', b', ps, e2, e2', hpl, hpo⟩ hv2 => ?_⟩
    subst e2'
    have ea : a = a' ∧ n = b' := by
      have q := List.cons.inj e2
      have q1 := q.1
      have q2 := (List.cons.inj q.2).1
      injection q1 with q1
      injection q2 with q2
      exact ⟨q1, q2⟩
    obtain ⟨rfl, rfl⟩ := ea
    obtain ⟨pa, xs, rfl, hpa, hpd⟩ := dp_list hv2
    have k12 := k1.trans k2
    have hxl : xs.length = ps.length := da_len hpd
    -- highs
    refine ⟨_, rfl, _, rfl, a, rfl, by omega, by omega, fun D hD => ?_⟩
    have hpD : p ≠ D := hP2.ne hD
    refine lcRM (K := K) (S := S) (T := [p]) (n := a.toNat) walk_range (fun i H' => Purse H' p (m + 1 + 40 + i)) (fun i ds => ∃ hs : List Int, ds = hs.map .int ∧ hs.length = i) hD (pin hp) (k12.live hS) (by omega) (fun _ _ => trivial) ⟨[], rfl, rfl⟩ hP2 (fun i H' o h => h.upd hpD) ?_ ?_
    · rintro i x Ha Hb ds Yes hi kp hL hPi ⟨hs, rfl, hhs⟩ ⟨rfl, rfl⟩ yes
      refine ⟨rfl, _, rfl, D :: S, p, _, _, [.int 2], rfl, hL, List.mem_cons_of_mem _ hp, hPi, by omega, .cons (.int _) .nil, ⟨_, rfl, by decide, by decide⟩, fun v3 H3 d3 k3 hP3 hr3 hv3 => ?_⟩
      obtain ⟨j, rfl, _, _⟩ := draw_is hr3 hv3
      exact yes _ _ (.int j) k3 hP3 (.int j) ⟨hs ++ [j], by rw [List.map_append]; rfl, by rw [List.length_append, hhs]; rfl⟩
    rintro H3 ys ds kp3 hL3 hP3 ⟨hs, rfl, hhs⟩ hl3 hle3 da3 dp3
    have k13 := k12.trans kp3
    have m23 : Same (hid S H2) (hid S H3) := kp3.hid (pin hp)
    refine ⟨S, .ref pa, .ref D, ps, hs, rfl, hL3, .lst (m23.seq hpa) (DpAll.mono m23 hpd), dp3, by omega, fun e he => ?_, fun wa H4 ws k4 nwa hwa hwl hwo => ?_⟩
    · obtain ⟨q0, q1, q2⟩ := hpo e he
      exact ⟨q0, q1, by omega⟩
    have hP4 : Purse H4 p (m + 50) := (hP3.kp k4 (by simp)).mono (by omega)
    have hpw : p ≠ wa := hP3.ne nwa
    have nwa0 : H wa = none := k13.free nwa
    have waS : wa ∉ S := not_mem_of hS nwa0
    have k14 := k13.trans k4.nil
    have m34 : Same (hid S H3) (hid (wa :: S) H4) := by
      rw [← hid_cons nwa]
      exact k4.hid0
    have pin2 : ∀ b ∈ [p], b ∈ wa :: S := fun b hb => List.mem_cons_of_mem _ (pin hp b hb)
    have hpd4 : Dp K (hid (wa :: S) H4) (.ref pa) (eP ps) := .lst ((m23.trans m34).seq hpa) (DpAll.mono (m23.trans m34) hpd)
    -- one wish turned
    refine ⟨_, rfl, S, p, m + 50, _, [.int 3], rfl, k14.live hS, hp, hP4, by omega, .cons (.int _) .nil, ⟨_, rfl, by decide, by decide⟩, fun v5 H5 d5 k5 hP5 hr5 hv5 => ?_⟩
    obtain ⟨j5, rfl, _, _⟩ := draw_is hr5 hv5
    refine ⟨rfl, _, rfl, ?_⟩
    have wa5 : H5 wa = some (.lst (ws.map L2.V.str)) := k5.at (by simpa using hpw.symm) hwa
    have hpd5 : Dp K (hid (wa :: S) H5) (.ref pa) (eP ps) := Dp.mono (k5.hid pin2) hpd4
    refine ifS_join (fun σ' H' => ∃ (o5 : Option L2.V) (us : List Str), σ' = [some (.ref p), some (.int n), some (.int a), some (.ref pa), some (.ref wa), o5, none] ∧ Kp [p] H H' ∧ Purse H' p (m + 52) ∧ H' wa = some (.lst (us.map L2.V.str)) ∧ us.length = ws.length ∧ (∀ x ∈ us, OE x) ∧ Dp K (hid (wa :: S) H') (.ref pa) (eP ps))
      (fun _ => ⟨none, ws, rfl, k14.trans k5, hP5.mono (by omega), wa5, rfl, hwo, hpd5⟩) (fun _ Nn hN => ?_) ?_
    · refine ⟨_, rfl, _, rfl, wa, _, rfl, .inl (.inl (.inl wa5)), S, p, m + 51, _, [.int ((ws.map L2.V.str).length : Int)], rfl, (k14.trans k5).live hS, hp, hP5, by omega, .cons (.int _) .nil, ⟨_, rfl, by rw [List.length_map]; omega, by rw [List.length_map]; omega⟩, fun v6 H6 d6 k6 hP6 hr6 hv6 => ?_⟩
      obtain ⟨j6, rfl, h60, h61⟩ := draw_is hr6 hv6
      rw [List.length_map] at h61
      obtain ⟨j, rfl⟩ := Int.eq_ofNat_of_zero_le h60
      have hj : j < ws.length := by omega
      have wa6 : H6 wa = some (.lst (ws.map L2.V.str)) := k6.at (by simpa using hpw.symm) wa5
      have gj : (ws.map L2.V.str)[j]? = some (.str ws[j]) := by rw [List.getElem?_map, List.getElem?_eq_getElem hj]; rfl
      refine ⟨_, rfl, _, rfl, wa, _, _, _, rfl, rfl, .inl (.inl wa6), atI_nat gj, rfl, _, rfl, ?_⟩
      refine if_tC fun v hv => ?_
      obtain ⟨o, rfl, ho⟩ : ∃ o : Str, v = .str o ∧ OE o := by
        rcases hv with rfl | rfl
        · exact ⟨_, rfl, .inr rfl⟩
        · exact ⟨_, rfl, .inl rfl⟩
      have hix : ixN (ws.map L2.V.str).length ((j : Nat) : Int) = some j := by
        unfold ixN
        rw [List.length_map, if_pos (by omega), if_pos (by omega)]
        rfl
      refine ⟨_, rfl, _, rfl, wa, _, _, j, rfl, rfl, wa6, hix, ?_⟩
      refine hN _ _ ⟨_, ws.set j o, rfl, ((k14.trans k5).trans k6).put nwa0, (hP6.upd hpw).mono (by omega), by rw [upd_same, List.map_set], by rw [List.length_set], fun x hx => ?_, ?_⟩
      · rcases List.mem_or_eq_of_mem_set hx with hx | rfl
        · exact hwo x hx
        · exact ho
      · rw [hid_in (List.mem_cons_self ..)]
        exact Dp.mono (k6.hid pin2) hpd5
    rintro σ' H6 ⟨o5, us, rfl, k6, hP6, wa6, hul, huo, hpd6⟩
    have hpd6 := Dp.mono (hid_tail (a := wa)) hpd6
    obtain ⟨pa', xs6, epa, hpa6, hda6⟩ := dp_list hpd6
    cases epa
    have hx6 : xs6.length = ps.length := da_len hda6
    refine ⟨_, rfl, pa, xs6, rfl, .inl (hid_le.seq hpa6), _, rfl, S, [eP ps], k6.live hS, .cons hpd6 .nil, ⟨ps, rfl, by omega⟩, fun v7 H7 d7 k7 ⟨ps', es, e7, e7', hel, heo⟩ hv7 => ?_⟩
    subst e7'
    have eps : ps'.length = ps.length := by
      have q := (List.cons.inj e7).1
      have q2 := congrArg List.length (PyData.list.inj q)
      rw [List.length_map, List.length_map] at q2
      exact q2.symm
    refine ⟨_, rfl, by show 3 ≤ sizeLine; decide, fun r nr => ?_⟩
    have wa7 := k7.same _ _ wa6
    have k67 := k6.trans k7.nil
    have sm : Same (hid S H7) (hid S (upd H7 r (.lst [.int (xs6.length : Int), v7, .ref wa]))) := (kp_new nr).hid0
    refine k _ _ (.list [.int (xs6.length : Int), eP es, eW us]) (k67.new nr) (((hP6.kp k7 (by simp)).upd ((hP6.kp k7 (by simp)).ne nr)).mono (by omega)) ⟨n, rfl, es, us, by rw [show (xs6.length : Int) = n by omega], fun e he => ?_, by omega, huo, hel⟩ ?_
    · obtain ⟨q0, q1, q2⟩ := heo e he
      exact ⟨q0, q1, by omega⟩
    · refine .lst (.inl (.inl (hid_at upd_same (not_mem_of (k67.live hS) nr)))) (.cons (.int _) (.cons (Dp.mono sm hv7) (.cons (words_dp (sm.seq (.inl (.inl (hid_at wa7 waS))))) .nil)))
end
end K41
namespace K41
open PySem PySem.Spec PyProof.Rows L2 PySem.W
theorem ifS_join2 {b : Bool} {ts tu : TS} {D : Ends} {σ : L2.St} {H : Hp} (Pq : L2.St → Hp → Prop) (ha : b = true → ∀ N : L2.St → Hp → Prop, (∀ σ' H', Pq σ' H' → N σ' H') → ts { D with nx := N } σ H) (hb : b = false → ∀ N : L2.St → Hp → Prop, (∀ σ' H', Pq σ' H' → N σ' H') → tu { D with nx := N } σ H)
    (h : ∀ σ' H', Pq σ' H' → D.nx σ' H') : if b = true then ts D σ H else tu D σ H := by
  cases b with
  | true => exact ha rfl _ h
  | false => exact hb rfl _ h
section
variable {P : Program} {w : World} {K : PySem.W.Frag} {mg : Str → Option Value} {base : Heap} {C : Addr}
theorem one_str {zs : List Str} {d : PyData} (h : rOne [eW zs] d) : ∃ x ∈ zs, d = .str x := by
  obtain ⟨es, e, hd⟩ := h
  have q : eW zs = .list es := (List.cons.inj e).1
  have q2 : zs.map PyData.str = es := PyData.list.inj q
  rw [← q2] at hd
  obtain ⟨x, hx, rfl⟩ := List.mem_map.mp hd
  exact ⟨x, hx, rfl⟩
theorem edges_dp {S : List Addr} {H : Hp} {t : Addr} {a b : Int} (h : hid S H t = some (.tup [.int a, .int b])) : Dp K (hid S H) (.ref t) (eP2 (a, b)) := pair_dp (.inl (.inl h))
theorem c_l_core_part (Y : Env K mg C) : Def P w K mg base (Str.ofString "_law_core_part") 4 ["_law_purse_here", "_law_many"] (spP K 20 (fun ds => ds = [.int 6]) rPart) := by
  refine def_mk Y.t_l_core_part sc_l_core_part bb_l_core_part (fun vs H Q E h => ?_) (fun f cdv A outer s H vs Q E hr h => ?_)
  · obtain ⟨S, p, m, rest, ds, rfl, hS, hp, hP, hm, h, rfl, k⟩ := h
    exact congrArg Nat.succ (DpAll.length h)
  · obtain ⟨S, p, m, rest, ds, rfl, hS, hp, hP, hm, h, rfl, k⟩ := h
    obtain ⟨v0, rfl, e0⟩ := da1 h
    obtain rfl := dp_int e0
    refine ⟨_, (pss_cons (ps_set (i := 2) sc_l_core_part.nd rfl (Or.inl rfl) (pe_lst (pa_cons (pe_tup (pa_cons pe_int (pa_cons pe_int pa_nil))) (pa_cons (pe_tup (pa_cons pe_int (pa_cons pe_int pa_nil))) (pa_cons (pe_tup (pa_cons pe_int (pa_cons pe_int pa_nil))) (pa_cons (pe_tup (pa_cons pe_int (pa_cons pe_int pa_nil))) (pa_cons (pe_tup (pa_cons pe_int (pa_cons pe_int pa_nil))) pa_nil)))))))
    (pss_cons (ps_for PassesOwn.never rfl (pi_range2 rfl Y.n_range (pa_cons pe_int (pa_cons (pv 1) pa_nil))) (pg_name (i := 3) sc_l_core_part.nd rfl (Or.inr rfl))
    (pss_cons (ps_setLc (i := 4) (own := [("_law_at", 5)]) rfl sc_l_core_part.nd rfl rfl (sw_true rfl rfl rfl (by decide +kernel)) (pi_range1 rfl Y.n_range (pa_cons (pv 3) pa_nil)) (blkOk_by (own := [("_law_at", 5)]) (N := ["_law_purse_here", "_law_many", "_law_edges", "_law_late", "_law_some", "_law_at"]) (sc := defScope s_l_core_part) (by decide +kernel)) (fun _ _ _ _ _ => (pg_name (i := 5) sc_l_core_part.nd rfl (Or.inl rfl))) (fun _ _ _ _ _ => (pts_one (pt_cmpR op_eq (pe_def (c_l_draw Y) (hr.mono (by decide)) (pa_cons (pv 0) (pa_cons pe_int pa_nil))) pe_int (nomark _)))) (fun _ _ _ _ _ => (pv 5)))
    (pss_cons (ps_set (i := 4) sc_l_core_part.nd rfl (Or.inl rfl) (pe_ifExp (pt_cmpR (K_neD (K := K) rfl (hu65 hr)) (pv 4) (pe_lst pa_nil) (nomark _)) (pv 4) (pe_lst (pa_cons (pe_def (c_l_draw Y) (hr.mono (by decide)) (pa_cons (pv 0) (pa_cons (pv 3) pa_nil))) pa_nil))))
    (pss_one (ps_set (i := 2) sc_l_core_part.nd rfl (Or.inl rfl) (pe_op (K_cat (K := K) rfl) (pv 2) (pe_lc (own := [("_law_at", 5)]) rfl sc_l_core_part.nd (K_pil (K := K) rfl (pv 4)) (blkOk_by (own := [("_law_at", 5)]) (N := ["_law_purse_here", "_law_many", "_law_edges", "_law_late", "_law_some", "_law_at"]) (sc := defScope s_l_core_part) (by decide +kernel)) (fun _ _ _ _ _ => (pg_name (i := 5) sc_l_core_part.nd rfl (Or.inl rfl))) (fun _ _ _ _ _ => pts_nil) (fun _ _ _ _ _ => (pe_tup (pa_cons (pv 5) (pa_cons (pv 3) pa_nil)))))))))))
    (pss_one (ps_ret (pe_lst (pa_cons (pv 1) (pa_cons (pv 2) (pa_cons (pe_lc (own := [("_law_at", 5)]) rfl sc_l_core_part.nd (pi_range1 rfl Y.n_range (pa_cons (pv 1) pa_nil)) (blkOk_by (own := [("_law_at", 5)]) (N := ["_law_purse_here", "_law_many", "_law_edges", "_law_late", "_law_some", "_law_at"]) (sc := defScope s_l_core_part) (by decide +kernel)) (fun _ _ _ _ _ => (pg_name (i := 5) sc_l_core_part.nd rfl (Or.inl rfl))) (fun _ _ _ _ _ => pts_nil) (fun _ _ _ _ _ => (pe_def (c_l_one_of Y) (hr.mono (by decide)) (pa_cons (pv 0) (pa_cons (pe_lst (pa_cons pe_str (pa_cons pe_str (pa_cons pe_str pa_nil)))) pa_nil))))) pa_nil)))))))), ?_⟩
    have two : 2 ≤ sizeLine := by decide
    refine ⟨two, fun t1 n1 => ⟨two, fun t2 n2 => ⟨two, fun t3 n3 => ⟨two, fun t4 n4 => ⟨two, fun t5 n5 => ⟨by show 5 ≤ sizeLine; decide, fun l nl => ?_⟩⟩⟩⟩⟩⟩
    have c1 : (upd H t1 (.tup [.int 0, .int 1])) t1 = some (.tup [.int 0, .int 1]) := upd_same
    have kk1 : Kp [] H (upd H t1 (.tup [.int 0, .int 1])) := kp_new n1
    generalize (upd H t1 (.tup [.int 0, .int 1])) = H1 at *
    have c2 : (upd H1 t2 (.tup [.int 1, .int 2])) t2 = some (.tup [.int 1, .int 2]) := upd_same
    have kk2 : Kp [] H1 (upd H1 t2 (.tup [.int 1, .int 2])) := kp_new n2
    generalize (upd H1 t2 (.tup [.int 1, .int 2])) = H2 at *
    have c3 : (upd H2 t3 (.tup [.int 2, .int 3])) t3 = some (.tup [.int 2, .int 3]) := upd_same
    have kk3 : Kp [] H2 (upd H2 t3 (.tup [.int 2, .int 3])) := kp_new n3
    generalize (upd H2 t3 (.tup [.int 2, .int 3])) = H3 at *
    have c4 : (upd H3 t4 (.tup [.int 2, .int 5])) t4 = some (.tup [.int 2, .int 5]) := upd_same
    have kk4 : Kp [] H3 (upd H3 t4 (.tup [.int 2, .int 5])) := kp_new n4
    generalize (upd H3 t4 (.tup [.int 2, .int 5])) = H4 at *
    have c5 : (upd H4 t5 (.tup [.int 3, .int 4])) t5 = some (.tup [.int 3, .int 4]) := upd_same
    have kk5 : Kp [] H4 (upd H4 t5 (.tup [.int 3, .int 4])) := kp_new n5
    generalize (upd H4 t5 (.tup [.int 3, .int 4])) = H5 at *
    have c6 : (upd H5 l (.lst [.ref t1, .ref t2, .ref t3, .ref t4, .ref t5])) l = some (.lst [.ref t1, .ref t2, .ref t3, .ref t4, .ref t5]) := upd_same
    have kk6 : Kp [] H5 (upd H5 l (.lst [.ref t1, .ref t2, .ref t3, .ref t4, .ref t5])) := kp_new nl
    generalize (upd H5 l (.lst [.ref t1, .ref t2, .ref t3, .ref t4, .ref t5])) = H6 at *
    have k6 : Kp [] H H6 := ((((kk1.trans kk2).trans kk3).trans kk4).trans kk5).trans kk6
    have g1 : hid S H6 t1 = some (.tup [.int 0, .int 1]) := hid_at (((((kk2.trans kk3).trans kk4).trans kk5).trans kk6).same _ _ c1) (not_mem_of hS n1)
    have g2 : hid S H6 t2 = some (.tup [.int 1, .int 2]) := hid_at ((((kk3.trans kk4).trans kk5).trans kk6).same _ _ c2) (not_mem_of (kk1.live hS) n2)
    have g3 : hid S H6 t3 = some (.tup [.int 2, .int 3]) := hid_at (((kk4.trans kk5).trans kk6).same _ _ c3) (not_mem_of ((kk1.trans kk2).live hS) n3)
    have g4 : hid S H6 t4 = some (.tup [.int 2, .int 5]) := hid_at ((kk5.trans kk6).same _ _ c4) (not_mem_of (((kk1.trans kk2).trans kk3).live hS) n4)
    have g5 : hid S H6 t5 = some (.tup [.int 3, .int 4]) := hid_at (kk6.same _ _ c5) (not_mem_of ((((kk1.trans kk2).trans kk3).trans kk4).live hS) n5)
    have g6 : hid S H6 l = some (.lst [.ref t1, .ref t2, .ref t3, .ref t4, .ref t5]) := hid_at c6 (not_mem_of (((((kk1.trans kk2).trans kk3).trans kk4).trans kk5).live hS) nl)
    have hE : Dp K (hid S H6) (.ref l) (eP [(0, 1), (1, 2), (2, 3), (2, 5), (3, 4)]) := .lst (.inl (.inl g6)) (.cons (edges_dp g1) (.cons (edges_dp g2) (.cons (edges_dp g3) (.cons (edges_dp g4) (.cons (edges_dp g5) .nil)))))
    have P6 : Purse H6 p m := hP.kp k6 (by simp)
    refine ⟨_, rfl, 6, 6, rfl, ⟨by decide, by decide, by decide, by decide⟩, ?_⟩
    refine for_it (n := 0) walk_range (fun i σ H' => σ = [some (.ref p), some (.int 6), some (.ref l), none, none, none] ∧ H' = H6) ⟨rfl, rfl⟩ (fun _ _ _ _ _ => trivial) (fun i x σ H1 H2 hi => absurd hi (Nat.not_lt_zero _)) ?_
    rintro σ H7 ⟨rfl, rfl⟩
    refine ⟨_, rfl, _, rfl, _, rfl, 6, rfl, by decide, by decide, fun D hD => ?_⟩
    have hpD : p ≠ D := P6.ne hD
    refine lcRM (K := K) (S := S) (T := [p]) (n := (6 : Int).toNat) walk_range (fun i H' => Purse H' p (m + i)) (fun i ds => ∃ ws : List Str, ds = ws.map .str ∧ ws.length = i ∧ ∀ x ∈ ws, OE x) hD (pin hp) (k6.live hS) (by decide) (fun _ _ => trivial) ⟨[], rfl, rfl, by simp⟩ P6 (fun i H' o h => h.upd hpD) ?_ ?_
    · rintro i x Ha Hb ds Yes hi kp hL hPi ⟨ws, rfl, hws, hwo⟩ ⟨rfl, rfl⟩ yes
      refine ⟨rfl, _, rfl, by show 3 ≤ sizeLine; decide, fun sl nsl => ?_⟩
      have hi6 : i < 6 := hi
      refine ⟨D :: S, p, m + i, _, [eW ["odd", "odd", "even"]], rfl, (kp_new (T := []) nsl).live hL, List.mem_cons_of_mem _ hp, hPi.upd (hPi.ne nsl), by omega, .cons (words_dp (.inl (.inl (hid_at upd_same (not_mem_of hL nsl))))) .nil, ⟨_, rfl, by decide, by decide⟩, fun v3 H3 d3 k3 hP3 hr3 hv3 => ?_⟩
      obtain ⟨o, ho, rfl⟩ := one_str hr3
      obtain rfl := dp_str hv3
      refine yes _ _ (.str o) ((kp_new nsl).trans k3) hP3 (.str o) ⟨ws ++ [o], by rw [List.map_append]; rfl, by rw [List.length_append, hws]; rfl, fun x hx => ?_⟩
      rcases List.mem_append.mp hx with hx | hx
      · exact hwo x hx
      · rw [List.mem_singleton.mp hx]
        simp only [List.mem_cons, List.not_mem_nil, or_false] at ho
        rcases ho with rfl | rfl | rfl
        · exact .inl rfl
        · exact .inl rfl
        · exact .inr rfl
    · rintro H8 ys ds kp hL hP8 ⟨ws, rfl, hws, hwo⟩ hl8 hle da dp
      refine ⟨by show 3 ≤ sizeLine; decide, fun r nr => ?_⟩
      have k68 : Kp [p] H H8 := k6.nil.trans kp
      have sm : Same (hid S H8) (hid S (upd H8 r (.lst [.int 6, .ref l, .ref D]))) := (kp_new nr).hid0
      refine k _ _ (.list [.int 6, eP [(0, 1), (1, 2), (2, 3), (2, 5), (3, 4)], eW ws]) (k68.new nr) ((hP8.upd (hP8.ne nr)).mono (by show m + 6 ≤ m + 20; omega)) ⟨6, rfl, _, ws, rfl, ?_, by rw [hws]; rfl, hwo, by decide⟩ ?_
      · intro e he
        simp only [List.mem_cons, List.not_mem_nil, or_false] at he
        rcases he with rfl | rfl | rfl | rfl | rfl <;> exact ⟨by decide, by decide, by decide⟩
      · refine .lst (.inl (.inl (hid_at upd_same (not_mem_of hL nr)))) (.cons (.int _) (.cons (Dp.mono ((kp.hid (pin hp)).trans sm) hE) (.cons (Dp.mono sm dp) .nil)))
end
end K41
namespace K41
open PySem PySem.Spec PyProof.Rows L2 PySem.W
theorem eP_range (g : Nat → Int × Int) (n : Nat) : PyData.list ((List.range n).map fun i => eP2 (g i)) = eP ((List.range n).map g) := by
  unfold eP
  rw [List.map_map]
  rfl
theorem eP_app (a b : List (Int × Int)) : PyData.list (a.map eP2 ++ b.map eP2) = eP (a ++ b) := by
  unfold eP
  rw [List.map_append]
section
variable {P : Program} {w : World} {K : PySem.W.Frag} {mg : Str → Option Value} {base : Heap} {C : Addr}
/-- edges at v, all of them good -/
structure EdgesAt (K : PySem.W.Frag) (G : Hp) (v : L2.V) (n : Int) (c : Nat) (es : List (Int × Int)) : Prop where
  dp : Dp K G v (eP es)
  ok : ∀ e ∈ es, EdgeOk n e
  few : es.length ≤ c
theorem EdgesAt.mono {G G' : Hp} {v : L2.V} {n : Int} {c c' : Nat} {es : List (Int × Int)} (h : EdgesAt K G v n c es) (s : Same G G') (hc : c ≤ c') : EdgesAt K G' v n c' es := ⟨Dp.mono s h.dp, h.ok, Nat.le_trans h.few hc⟩
theorem EdgesAt.shp {G : Hp} {v : L2.V} {n : Int} {c : Nat} {es : List (Int × Int)} (h : EdgesAt K G v n c es) : SeqAt.shaped (eP es) = true :=
  (fine_list (n := 1) fun e _ => fine_tup fun x hx => by
    simp only [List.mem_cons, List.not_mem_nil, or_false] at hx
    rcases hx with rfl | rfl <;> exact fine_int).shaped (n := 2) (by decide)
theorem pair_shp (e : Int × Int) : SeqAt.shaped (eP2 e) = true :=
  (fine_tup (n := 0) fun x hx => by
    simp only [List.mem_cons, List.not_mem_nil, or_false] at hx
    rcases hx with rfl | rfl <;> exact fine_int).shaped (n := 1) (by decide)
theorem c_l_family_part (Y : Env K mg C) : Def P w K mg base (Str.ofString "_law_family_part") 4 ["_law_purse_here", "_law_many"] (spP K 80 dOne6 rPart) := by
  refine def_mk Y.t_l_family_part sc_l_family_part bb_l_family_part (fun vs H Q E h => ?_) (fun f cdv A outer s H vs Q E hr h => ?_)
  · obtain ⟨S, p, m, rest, ds, rfl, hS, hp, hP, hm, h, ⟨n, rfl, _⟩, k⟩ := h
    exact congrArg Nat.succ (DpAll.length h)
  · obtain ⟨S, p, m, rest, ds, rfl, hS, hp, hP, hm, h, ⟨n, rfl, hn1, hn6⟩, k⟩ := h
    obtain ⟨v0, rfl, e0⟩ := da1 h
    obtain rfl := dp_int e0
    have two : 2 ≤ sizeLine := by decide
    refine ⟨_, (pss_cons (ps_set (i := 2) sc_l_family_part.nd rfl (Or.inl rfl) (pe_def (c_l_draw Y) (hr.mono (by decide)) (pa_cons (pv 0) (pa_cons pe_int pa_nil))))
    (pss_cons (ps_par (i := 5) (j := 6) rfl sc_l_family_part.nd rfl rfl (by decide) rfl rfl (pa_cons (pe_lc (own := [("_law_at", 8)]) rfl sc_l_family_part.nd (pi_range1 rfl Y.n_range (pa_cons (pe_op op_sub (pv 1) pe_int) pa_nil)) (blkOk_by (own := [("_law_at", 8)]) (N := ["_law_purse_here", "_law_many", "_law_kind", "_law_other", "_law_some", "_law_row", "_law_full", "_law_edges", "_law_at", "_law_one", "_law_late", "_law_pair"]) (sc := defScope s_l_family_part) (by decide +kernel)) (fun _ _ _ _ _ => (pg_name (i := 8) sc_l_family_part.nd rfl (Or.inl rfl))) (fun _ _ _ _ _ => pts_nil) (fun _ _ _ _ _ => (pe_tup (pa_cons (pv 8) (pa_cons (pe_op op_add (pv 8) pe_int) pa_nil))))) (pa_cons (pe_lst pa_nil) pa_nil)) rfl)
    (pss_cons (ps_for PassesOwn.never rfl (pi_range1 rfl Y.n_range (pa_cons (pv 1) pa_nil)) (pg_name (i := 3) sc_l_family_part.nd rfl (Or.inr rfl))
    (pss_one (ps_set (i := 6) sc_l_family_part.nd rfl (Or.inl rfl) (pe_op (K_cat (K := K) rfl) (pv 6) (pe_lc (own := [("_law_one", 9)]) rfl sc_l_family_part.nd (pi_range1 rfl Y.n_range (pa_cons (pv 3) pa_nil)) (blkOk_by (own := [("_law_one", 9)]) (N := ["_law_purse_here", "_law_many", "_law_kind", "_law_other", "_law_some", "_law_row", "_law_full", "_law_edges", "_law_at", "_law_one", "_law_late", "_law_pair"]) (sc := defScope s_l_family_part) (by decide +kernel)) (fun _ _ _ _ _ => (pg_name (i := 9) sc_l_family_part.nd rfl (Or.inl rfl))) (fun _ _ _ _ _ => pts_nil) (fun _ _ _ _ _ => (pe_tup (pa_cons (pv 9) (pa_cons (pv 3) pa_nil)))))))))
    (pss_cons (ps_if (pt_cmpR op_eq (pv 2) pe_int (nomark _)) (pss_one (ps_set (i := 7) sc_l_family_part.nd rfl (Or.inr rfl) (pv 5))) (pss_one (ps_if (pt_cmpR op_eq (pv 2) pe_int (nomark _)) (pss_one (ps_set (i := 7) sc_l_family_part.nd rfl (Or.inr rfl) (pe_op (K_cat (K := K) rfl) (pv 5) (pe_op op_rep (pe_lst (pa_cons (pe_tup (pa_cons pe_int (pa_cons (pe_op op_sub (pv 1) pe_int) pa_nil))) pa_nil)) (pe_callTy call_int1 (by rfl) Y.n_int (by decide +kernel) (pa_cons (pe_cmpR op_gt (pv 1) pe_int (nomark _)) pa_nil)))))) (pss_one (ps_if (pt_cmpR op_eq (pv 2) pe_int (nomark _)) (pss_one (ps_set (i := 7) sc_l_family_part.nd rfl (Or.inr rfl) (pe_lc (own := [("_law_at", 8)]) rfl sc_l_family_part.nd (pi_range2 rfl Y.n_range (pa_cons pe_int (pa_cons (pv 1) pa_nil))) (blkOk_by (own := [("_law_at", 8)]) (N := ["_law_purse_here", "_law_many", "_law_kind", "_law_other", "_law_some", "_law_row", "_law_full", "_law_edges", "_law_at", "_law_one", "_law_late", "_law_pair"]) (sc := defScope s_l_family_part) (by decide +kernel)) (fun _ _ _ _ _ => (pg_name (i := 8) sc_l_family_part.nd rfl (Or.inl rfl))) (fun _ _ _ _ _ => pts_nil) (fun _ _ _ _ _ => (pe_tup (pa_cons pe_int (pa_cons (pv 8) pa_nil))))))) (pss_one (ps_if (pt_cmpR op_eq (pv 2) pe_int (nomark _)) (pss_one (ps_set (i := 7) sc_l_family_part.nd rfl (Or.inr rfl) (pv 6))) (pss_cons (ps_set (i := 7) sc_l_family_part.nd rfl (Or.inr rfl) (pe_lc (own := [("_law_late", 10)]) rfl sc_l_family_part.nd (pi_range2 rfl Y.n_range (pa_cons pe_int (pa_cons (pv 1) pa_nil))) (blkOk_by (own := [("_law_late", 10)]) (N := ["_law_purse_here", "_law_many", "_law_kind", "_law_other", "_law_some", "_law_row", "_law_full", "_law_edges", "_law_at", "_law_one", "_law_late", "_law_pair"]) (sc := defScope s_l_family_part) (by decide +kernel)) (fun _ _ _ _ _ => (pg_name (i := 10) sc_l_family_part.nd rfl (Or.inl rfl))) (fun _ _ _ _ _ => pts_nil) (fun _ _ _ _ _ => (pe_tup (pa_cons (pe_def (c_l_draw Y) (hr.mono (by decide)) (pa_cons (pv 0) (pa_cons (pv 10) pa_nil))) (pa_cons (pv 10) pa_nil))))))
    (pss_one (ps_set (i := 7) sc_l_family_part.nd rfl (Or.inr rfl) (pe_op (K_cat (K := K) rfl) (pv 7) (pe_lc (own := [("_law_pair", 11)]) rfl sc_l_family_part.nd (K_pil (K := K) rfl (pv 6)) (blkOk_by (own := [("_law_pair", 11)]) (N := ["_law_purse_here", "_law_many", "_law_kind", "_law_other", "_law_some", "_law_row", "_law_full", "_law_edges", "_law_at", "_law_one", "_law_late", "_law_pair"]) (sc := defScope s_l_family_part) (by decide +kernel)) (fun _ _ _ _ _ => (pg_name (i := 11) sc_l_family_part.nd rfl (Or.inl rfl))) (fun _ _ _ _ _ => (pts_one (PW.pt (pw_and (pt_cmpR (K_notInD (K := K) rfl (hu65 hr)) (pv 11) (pv 7) rfl) (pw_and1 (pt_cmpR op_eq (pe_def (c_l_draw Y) (hr.mono (by decide)) (pa_cons (pv 0) (pa_cons pe_int pa_nil))) pe_int (nomark _))))))) (fun _ _ _ _ _ => (pv 11))))))))))))))
    (pss_cons (ps_set (i := 4) sc_l_family_part.nd rfl (Or.inr rfl) (pe_ix (K_ixL (K := K) rfl) (pe_lst (pa_cons (pe_lst (pa_cons pe_str pa_nil)) (pa_cons (pe_lst (pa_cons pe_str pa_nil)) (pa_cons (pe_lst (pa_cons pe_str (pa_cons pe_str pa_nil))) pa_nil)))) (pe_def (c_l_draw Y) (hr.mono (by decide)) (pa_cons (pv 0) (pa_cons pe_int pa_nil))) (fun _ _ => rfl)))
    (pss_one (ps_ret (pe_lst (pa_cons (pv 1) (pa_cons (pv 7) (pa_cons (pe_lc (own := [("_law_at", 8)]) rfl sc_l_family_part.nd (pi_range1 rfl Y.n_range (pa_cons (pv 1) pa_nil)) (blkOk_by (own := [("_law_at", 8)]) (N := ["_law_purse_here", "_law_many", "_law_kind", "_law_other", "_law_some", "_law_row", "_law_full", "_law_edges", "_law_at", "_law_one", "_law_late", "_law_pair"]) (sc := defScope s_l_family_part) (by decide +kernel)) (fun _ _ _ _ _ => (pg_name (i := 8) sc_l_family_part.nd rfl (Or.inl rfl))) (fun _ _ _ _ _ => pts_nil) (fun _ _ _ _ _ => (pe_def (c_l_one_of Y) (hr.mono (by decide)) (pa_cons (pv 0) (pa_cons (pv 4) pa_nil))))) pa_nil))))))))))), ?_⟩
    refine ⟨_, rfl, S, p, m, _, [.int 5], rfl, hS, hp, hP, by omega, .cons (.int _) .nil, ⟨5, rfl, by decide, by decide⟩, fun v1 H1 d1 k1 hP1 hr1 hv1 => ?_⟩
    obtain ⟨kd, rfl, hkd0, hkd1⟩ := draw_is hr1 hv1
    have hS1 := k1.live hS
    -- row, full
    refine ⟨_, rfl, _, _, rfl, rfl, n - 1, rfl, by omega, by omega, fun Dr hDr => ?_⟩
    refine lcS (K := K) (S := S) (walkR (lo := 0) (n := (n - 1).toNat)) (fun i => eP2 ((0 + (i : Int), 0 + (i : Int) + 1))) hDr hS1 (by rw [List.length_range]; omega) (fun H1 kp => trivial) ?_ ?_
    · rintro i x x1 H4 H5 Yes hi kp hL ⟨rfl, rfl⟩ yes
      obtain ⟨rfl, hi⟩ := range_at hi
      exact ⟨rfl, _, rfl, _, rfl, _, _, rfl, rfl, two, fun T nT => yes _ _ (kp_new nT) (pair_dp (.inl (.inl (hid_at upd_same (not_mem_of hL nT)))))⟩
    intro H2 ys2 kr hL2 hlr hler dar dpr
    rw [eP_range (fun i => ((0 + (i : Int), 0 + (i : Int) + 1)))] at dpr
    have rowE : EdgesAt K (hid S H2) (.ref Dr) n 6 ((List.range (n - 1).toNat).map fun i : Nat => ((0 + (i : Int), 0 + (i : Int) + 1))) := ⟨dpr, fun e he => by
      obtain ⟨i, hi, rfl⟩ := List.mem_map.mp he
      have := List.mem_range.mp hi
      exact ⟨by show 0 ≤ 0 + (i : Int); omega, by show 0 + (i : Int) < 0 + (i : Int) + 1; omega, by show 0 + (i : Int) + 1 < n; omega⟩, by rw [List.length_map, List.length_range]; omega⟩
    generalize ((List.range (n - 1).toNat).map fun i : Nat => ((0 + (i : Int), 0 + (i : Int) + 1))) = rowL at rowE
    have P2 : Purse H2 p (m + 1) := hP1.kp kr (by simp)
    refine ⟨Nat.zero_le _, fun f0 nf0 => ⟨_, _, rfl, ?_⟩⟩
    have k2 : Kp [p] H (upd H2 f0 (.lst [])) := (k1.trans kr.nil).new nf0
    have P3 : Purse (upd H2 f0 (.lst [])) p (m + 1) := P2.upd (P2.ne nf0)
    have row3 : EdgesAt K (hid S (upd H2 f0 (.lst []))) (.ref Dr) n 6 rowL := rowE.mono (kp_new nf0).hid0 (Nat.le_refl _)
    have full3 : EdgesAt K (hid S (upd H2 f0 (.lst []))) (.ref f0) n 0 [] := ⟨.lst (.inl (.inl (hid_at upd_same (not_mem_of hL2 nf0)))) .nil, by simp, Nat.le_refl _⟩
    generalize (upd H2 f0 (.lst [])) = H3 at k2 P3 row3 full3 ⊢
    have hS3 := k2.live hS
    -- for other in range(many)
    refine ⟨_, rfl, n, rfl, by omega, by omega, ?_⟩
    refine for_it (n := n.toNat) walk_range (fun i σ H' => ∃ (o3 : Option L2.V) (fl : L2.V) (es : List (Int × Int)), σ = [some (.ref p), some (.int n), some (.int kd), o3, none, some (.ref Dr), some fl, none, none, none, none, none] ∧ Kp [] H3 H' ∧ EdgesAt K (hid S H') fl n (6 * i) es)
      ⟨_, _, [], rfl, .refl, full3⟩ (fun _ _ _ _ _ => trivial) ?_ ?_
    · rintro i x σ Ha Hb hi ⟨o3, fl, es, rfl, ka, hE⟩ ⟨rfl, rfl⟩
      refine ⟨_, rfl, _, rfl, 0 + (i : Int), rfl, by omega, by omega, fun D hD => ?_⟩
      have hSa := ka.live hS3
      refine lcS (K := K) (S := S) (walkR (lo := 0) (n := (0 + (i : Int)).toNat)) (fun j => eP2 ((0 + (j : Int), 0 + (i : Int)))) hD hSa (by rw [List.length_range]; omega) (fun H1 kp => trivial) ?_ ?_
      · rintro j x x1 H4 H5 Yes hj kp hL ⟨rfl, rfl⟩ yes
        obtain ⟨rfl, hj⟩ := range_at hj
        exact ⟨rfl, _, rfl, _, rfl, two, fun T nT => yes _ _ (kp_new nT) (pair_dp (.inl (.inl (hid_at upd_same (not_mem_of hL nT)))))⟩
      intro H5 ys5 k5 hL5 hl5 hle5 da5 dp5
      rw [eP_range (fun j => ((0 + (j : Int), 0 + (i : Int))))] at dp5
      have hE5 := hE.mono (k5.hid0 (S := S)) (Nat.le_refl _)
      refine cat_ans hL5 hE5.dp dp5 (by rw [List.length_map, List.length_map, List.length_map, List.length_range]; have := hE.few; omega) fun q xs nq hxs _ dq => ?_
      rw [eP_app] at dq
      refine ⟨_, _, _, rfl, (ka.trans k5).new nq, dq, fun e he => ?_, by rw [List.length_append, List.length_map, List.length_range]; have := hE.few; omega⟩
      rcases List.mem_append.mp he with he | he
      · exact hE.ok e he
      · obtain ⟨j, hj, rfl⟩ := List.mem_map.mp he
        have := List.mem_range.mp hj
        exact ⟨by show 0 ≤ 0 + (j : Int); omega, by show 0 + (j : Int) < 0 + (i : Int); omega, by show 0 + (i : Int) < n; omega⟩
    rintro σ H4 ⟨o3, fl, fuL, rfl, k4, hF⟩
    have P4 : Purse H4 p (m + 1) := P3.kp k4 (by simp)
    have row4 := row3.mono (k4.hid0 (S := S)) (Nat.le_refl _)
    have K4 := k2.trans k4.nil
    have hS4 := K4.live hS
    -- the kinds
    have eqk : ∀ z : Int, decide (L2.V.int kd = L2.V.int z) = decide (kd = z) := fun z => int_eqb
    refine ⟨_, rfl, rfl, _, rfl, ?_⟩
    refine ifS_join2 (fun σ' H' => ∃ (ev : L2.V) (es : List (Int × Int)), σ' = [some (.ref p), some (.int n), some (.int kd), o3, none, some (.ref Dr), some fl, some ev, none, none, none, none] ∧ Kp [p] H H' ∧ Purse H' p (m + 60) ∧ EdgesAt K (hid S H') ev n 100 es) (fun _ Nn hN => ?_) (fun _ Nn hN => ?_) ?_
    · exact ⟨_, rfl, hN _ _ ⟨_, rowL, rfl, K4, P4.mono (by omega), row4.mono (Same.refl _) (by omega)⟩⟩
    · refine ⟨_, rfl, rfl, _, rfl, ?_⟩
      refine ifS_join2 (fun σ' H' => ∃ (ev : L2.V) (es : List (Int × Int)), σ' = [some (.ref p), some (.int n), some (.int kd), o3, none, some (.ref Dr), some fl, some ev, none, none, none, none] ∧ Kp [p] H H' ∧ Purse H' p (m + 60) ∧ EdgesAt K (hid S H') ev n 100 es) (fun _ N2 hN2 => ?_) (fun _ N2 hN2 => ?_) hN
      · -- row and a last one
        refine ⟨_, rfl, _, rfl, _, _, rfl, rfl, two, fun t nt => ⟨by show 1 ≤ sizeLine; decide, fun l nl => ?_⟩⟩
        refine ⟨_, rfl, _, _, rfl, rfl, .inr ⟨_, rfl, ?_⟩⟩
        have elt : t ≠ l := ne_of_none upd_same nl
        have kA : Kp [] H4 (upd (upd H4 t (.tup [.int 0, .int (n - 1)])) l (.lst [.ref t])) := (kp_new nt).new nl
        have lA : (upd (upd H4 t (.tup [.int 0, .int (n - 1)])) l (.lst [.ref t])) l = some (.lst [.ref t]) := upd_same
        have tA : hid S (upd (upd H4 t (.tup [.int 0, .int (n - 1)])) l (.lst [.ref t])) t = some (.tup [.int 0, .int (n - 1)]) := hid_at (by rw [upd_ne elt, upd_same]) (not_mem_of hS4 nt)
        generalize (upd (upd H4 t (.tup [.int 0, .int (n - 1)])) l (.lst [.ref t])) = HA at kA lA tA ⊢
        have rep : ∀ (c : Int), c = 0 ∨ (c = 1 ∧ n > 2) → -(2 ^ 63) ≤ c ∧ c < 2 ^ 63 ∧ ([L2.V.ref t] : List L2.V).length * c.toNat ≤ sizeLine ∧ ∃ es : List (Int × Int), DpAll K (hid S HA) (List.replicate c.toNat [L2.V.ref t]).flatten (es.map eP2) ∧ (∀ e ∈ es, EdgeOk n e) ∧ es.length ≤ 1 := fun c hc => by
          rcases hc with rfl | ⟨rfl, h2⟩
          · exact ⟨by decide, by decide, by show 1 * 0 ≤ sizeLine; decide, [], .nil, by simp, by decide⟩
          · refine ⟨by decide, by decide, by show 1 * 1 ≤ sizeLine; decide, [(0, n - 1)], .cons (edges_dp tA) .nil, fun e he => ?_, Nat.le_refl 1⟩
            rw [List.mem_singleton.mp he]
            exact ⟨Int.le_refl 0, by show (0 : Int) < n - 1; omega, by show n - 1 < n; omega⟩
        obtain ⟨r1, r2, r3, es, r4, r5, r6⟩ := rep (if decide (n > 2) = true then 1 else 0) (by
          by_cases h : n > 2
          · exact .inr ⟨by rw [if_pos (decide_eq_true h)], h⟩
          · exact .inl (by rw [if_neg (by rw [decide_eq_false h]; decide)]))
        refine ⟨l, _, _, rfl, rfl, lA, r1, r2, r3, fun q nq => ?_⟩
        have kB := kA.new (o := .lst (List.replicate (if decide (n > 2) = true then (1 : Int) else 0).toNat [L2.V.ref t]).flatten) nq
        have hqS : q ∉ S := not_mem_of (kA.live hS4) nq
        refine cat_ans (kB.live hS4) (Dp.mono kB.hid0 row4.dp) (.lst (ds := es.map eP2) (.inl (.inl (hid_at upd_same hqS))) (DpAll.mono (kp_new nq).hid0 r4)) (by rw [List.length_map, List.length_map]; have := row4.few; omega) fun q2 xs nq2 hxs _ dq => ?_
        rw [eP_app] at dq
        refine hN2 _ _ ⟨_, rowL ++ es, rfl, (K4.trans kB.nil).new nq2, ((P4.kp kB (by simp)).upd ((P4.kp kB (by simp)).ne nq2)).mono (by omega), dq, fun e he => ?_, by rw [List.length_append]; have := row4.few; omega⟩
        rcases List.mem_append.mp he with he | he
        · exact row4.ok e he
        · exact r5 e he
      · refine ⟨_, rfl, rfl, _, rfl, ?_⟩
        refine ifS_join2 (fun σ' H' => ∃ (ev : L2.V) (es : List (Int × Int)), σ' = [some (.ref p), some (.int n), some (.int kd), o3, none, some (.ref Dr), some fl, some ev, none, none, none, none] ∧ Kp [p] H H' ∧ Purse H' p (m + 60) ∧ EdgesAt K (hid S H') ev n 100 es) (fun _ N3 hN3 => ?_) (fun _ N3 hN3 => ?_) hN2
        · -- a star
          refine ⟨_, rfl, 1, n, rfl, ⟨by decide, by decide, by omega, by omega⟩, fun D hD => ?_⟩
          refine lcS (K := K) (S := S) (walkR (lo := 1) (n := (n - 1).toNat)) (fun j => eP2 ((0, 1 + (j : Int)))) hD hS4 (by rw [List.length_range]; omega) (fun H1 kp => trivial) ?_ ?_
          · rintro j x x1 H6 H5 Yes hj kp hL ⟨rfl, rfl⟩ yes
            obtain ⟨rfl, hj⟩ := range_at hj
            exact ⟨rfl, _, rfl, two, fun T nT => yes _ _ (kp_new nT) (pair_dp (.inl (.inl (hid_at upd_same (not_mem_of hL nT)))))⟩
          intro H5 ys5 k5 hL5 hl5 hle5 da5 dp5
          rw [eP_range (fun j => ((0, 1 + (j : Int))))] at dp5
          refine hN3 _ _ ⟨_, _, rfl, K4.trans k5.nil, (P4.kp k5 (by simp)).mono (by omega), dp5, fun e he => ?_, by rw [List.length_map, List.length_range]; omega⟩
          obtain ⟨j, hj, rfl⟩ := List.mem_map.mp he
          have := List.mem_range.mp hj
          exact ⟨Int.le_refl 0, by show 0 < 1 + (j : Int); omega, by show 1 + (j : Int) < n; omega⟩
        · refine ⟨_, rfl, rfl, _, rfl, ?_⟩
          refine ifS_join2 (fun σ' H' => ∃ (ev : L2.V) (es : List (Int × Int)), σ' = [some (.ref p), some (.int n), some (.int kd), o3, none, some (.ref Dr), some fl, some ev, none, none, none, none] ∧ Kp [p] H H' ∧ Purse H' p (m + 60) ∧ EdgesAt K (hid S H') ev n 100 es) (fun _ N4 hN4 => ?_) (fun _ N4 hN4 => ?_) hN3
          · exact ⟨_, rfl, hN4 _ _ ⟨_, fuL, rfl, K4, P4.mono (by omega), hF.mono (Same.refl _) (by omega)⟩⟩
          · -- a tree, and some more
            refine ⟨_, rfl, 1, n, rfl, ⟨by decide, by decide, by omega, by omega⟩, fun D hD => ?_⟩
            have hpD : p ≠ D := P4.ne hD
            refine lcRM (K := K) (S := S) (T := [p]) (n := (n - 1).toNat) walk_range (fun i H' => Purse H' p (m + 1 + i)) (fun i ds => ∃ ps : List (Int × Int), ds = ps.map eP2 ∧ ps.length = i ∧ ∀ e ∈ ps, EdgeOk n e) hD (pin hp) hS4 (by omega) (fun _ _ => trivial) ⟨[], rfl, rfl, by simp⟩ P4 (fun i H' o h => h.upd hpD) ?_ ?_
            · rintro i x Ha Hb ds Yes hi kp hL hPi ⟨ps, rfl, hps, hok⟩ ⟨rfl, rfl⟩ yes
              refine ⟨rfl, _, rfl, _, rfl, D :: S, p, _, _, [.int (1 + (i : Int))], rfl, hL, List.mem_cons_of_mem _ hp, hPi, by omega, .cons (.int _) .nil, ⟨_, rfl, by omega, by omega⟩, fun v3 H3 d3 k3 hP3 hr3 hv3 => ?_⟩
              obtain ⟨j, rfl, hj0, hj1⟩ := draw_is hr3 hv3
              refine ⟨_, rfl, two, fun T nT => ?_⟩
              refine yes _ _ (eP2 (j, 1 + (i : Int))) (k3.new nT) ((hP3.upd (hP3.ne nT)).mono (by omega)) (pair_dp (.inl (.inl (hid_at upd_same (not_mem_of (k3.live hL) nT))))) ⟨ps ++ [(j, 1 + (i : Int))], by rw [List.map_append]; rfl, by rw [List.length_append, hps]; rfl, fun e he => ?_⟩
              rcases List.mem_append.mp he with he | he
              · exact hok e he
              · rw [List.mem_singleton.mp he]
                exact ⟨hj0, hj1, by show 1 + (i : Int) < n; omega⟩
            rintro H5 ys5 ds5 k5 hL5 hP5 ⟨ps, rfl, hps, hok⟩ hl5 hle5 da5 dp5
            have treeE : EdgesAt K (hid S H5) (.ref D) n 6 ps := ⟨dp5, hok, by omega⟩
            have hF5 := hF.mono (k5.hid (S := S) (pin hp)) (Nat.le_refl _)
            obtain ⟨fa, fx, rfl, hf1, hf2⟩ := dp_list hF5.dp
            refine ⟨_, rfl, _, rfl, fa, rfl, ⟨_, hid_le.seq hf1⟩, fun D2 hD2 => ?_⟩
            have hpD2 : p ≠ D2 := hP5.ne hD2
            refine lcR (K := K) (S := S) (T := [p]) (walkD hf2) (fun i H' => Purse H' p (m + 10 + i)) (fun i ds => ∃ qs : List (Int × Int), ds = qs.map eP2 ∧ qs.length ≤ i ∧ ∀ e ∈ qs, EdgeOk n e) hD2 (pin hp) hL5 (by have := hF5.few; omega) (fun H' kp => hid_le.seq ((kp.hid (pin hp)).seq hf1)) ⟨[], rfl, Nat.le_refl _, by simp⟩ (hP5.mono (by omega)) (fun i H' o h => h.upd hpD2) ?_ ?_
            · rintro i x Ha Hb ds Yes No hi kp hL hPi ⟨qs, rfl, hql, hqo⟩ ⟨rfl, y⟩ yes no
              have hmem := List.getElem_mem hi
              have m5 : Same (hid S H5) (hid (D2 :: S) Hb) := by
                have q := kp.hid (S := D2 :: S) fun b hb => List.mem_cons_of_mem _ (pin hp b hb)
                rwa [hid_cons hD2] at q
              have hx := y _ (List.getElem?_eq_getElem hi)
              refine ⟨rfl, _, rfl, _, rfl, _, _, Dp.mono (hid_le.trans (Same.refl _)) (Dp.mono m5 hx), Dp.mono hid_le (Dp.mono m5 treeE.dp), pair_shp _, treeE.shp, _, rfl, ?_⟩
              generalize (!(ps.map eP2).any fun z => PyData.eqv z (eP2 fuL[i])) = b
              cases b with
              | false => exact no _ .refl (hPi.mono (by omega)) ⟨qs, rfl, by omega, hqo⟩
              | true =>
                refine ⟨_, rfl, D2 :: S, p, _, _, [.int 4], rfl, hL, List.mem_cons_of_mem _ hp, hPi, by have := hF5.few; omega, .cons (.int _) .nil, ⟨_, rfl, by decide, by decide⟩, fun v6 H6 d6 k6 hP6 hr6 hv6 => ?_⟩
                obtain ⟨j, rfl, _, _⟩ := draw_is hr6 hv6
                refine ⟨rfl, _, rfl, ?_⟩
                generalize decide (L2.V.int j = L2.V.int 0) = b
                cases b with
                | false => exact no _ k6 hP6 ⟨qs, rfl, by omega, hqo⟩
                | true =>
                  refine ⟨_, rfl, ?_⟩
                  refine yes _ _ (eP2 fuL[i]) k6 hP6 (Dp.mono (m5.trans (k6.hid fun b hb => List.mem_cons_of_mem _ (pin hp b hb))) hx) ⟨qs ++ [fuL[i]], by rw [List.map_append]; rfl, by rw [List.length_append, List.length_singleton]; omega, fun e he => ?_⟩
                  rcases List.mem_append.mp he with he | he
                  · exact hqo e he
                  · rw [List.mem_singleton.mp he]
                    exact hF.ok _ hmem
            rintro H6 ys6 ds6 k6 hL6 hP6 ⟨qs, rfl, hql, hqo⟩ hl6 hle6 da6 dp6
            have treeE6 := treeE.mono (k6.hid (S := S) (pin hp)) (Nat.le_refl _)
            have ff := hF5.few
            refine cat_ans hL6 treeE6.dp dp6 (by rw [List.length_map, List.length_map]; have := treeE.few; omega) fun q2 xs nq2 hxs _ dq => ?_
            rw [eP_app] at dq
            refine hN4 _ _ ⟨_, ps ++ qs, rfl, ((K4.trans k5).trans k6).new nq2, (hP6.upd (hP6.ne nq2)).mono (by omega), dq, fun e he => ?_, by rw [List.length_append]; have := treeE.few; omega⟩
            rcases List.mem_append.mp he with he | he
            · exact hok e he
            · exact hqo e he
    rintro σ H5 ⟨ev, es, rfl, k5, P5, hE⟩
    have hS5 := k5.live hS
    -- some
    have one1 : 1 ≤ sizeLine := by decide
    refine ⟨one1, fun l1 n1 => ⟨one1, fun l2 n2 => ⟨two, fun l3 n3 => ⟨by show 3 ≤ sizeLine; decide, fun l4 n4 => ?_⟩⟩⟩⟩
    have c1 : (upd H5 l1 (.lst [.str "odd"])) l1 = some (.lst [.str "odd"]) := upd_same
    have kk1 : Kp [] H5 (upd H5 l1 (.lst [.str "odd"])) := kp_new n1
    generalize (upd H5 l1 (.lst [.str "odd"])) = G1 at *
    have c2 : (upd G1 l2 (.lst [.str "even"])) l2 = some (.lst [.str "even"]) := upd_same
    have kk2 : Kp [] G1 (upd G1 l2 (.lst [.str "even"])) := kp_new n2
    generalize (upd G1 l2 (.lst [.str "even"])) = G2 at *
    have c3 : (upd G2 l3 (.lst [.str "odd", .str "even"])) l3 = some (.lst [.str "odd", .str "even"]) := upd_same
    have kk3 : Kp [] G2 (upd G2 l3 (.lst [.str "odd", .str "even"])) := kp_new n3
    generalize (upd G2 l3 (.lst [.str "odd", .str "even"])) = G3 at *
    have c4 : (upd G3 l4 (.lst [.ref l1, .ref l2, .ref l3])) l4 = some (.lst [.ref l1, .ref l2, .ref l3]) := upd_same
    have kk4 : Kp [] G3 (upd G3 l4 (.lst [.ref l1, .ref l2, .ref l3])) := kp_new n4
    generalize (upd G3 l4 (.lst [.ref l1, .ref l2, .ref l3])) = G4 at *
    have kG : Kp [] H5 G4 := ((kk1.trans kk2).trans kk3).trans kk4
    have g1 : hid S G4 l1 = some (.lst [.str "odd"]) := hid_at (((kk2.trans kk3).trans kk4).same _ _ c1) (not_mem_of hS5 n1)
    have g2 : hid S G4 l2 = some (.lst [.str "even"]) := hid_at ((kk3.trans kk4).same _ _ c2) (not_mem_of (kk1.live hS5) n2)
    have g3 : hid S G4 l3 = some (.lst [.str "odd", .str "even"]) := hid_at (kk4.same _ _ c3) (not_mem_of ((kk1.trans kk2).live hS5) n3)
    have PG := P5.kp kG (by simp)
    refine ⟨_, rfl, S, p, _, _, [.int 3], rfl, kG.live hS5, hp, PG, by omega, .cons (.int _) .nil, ⟨_, rfl, by decide, by decide⟩, fun v6 H6 d6 k6 hP6 hr6 hv6 => ?_⟩
    obtain ⟨j, rfl, hj0, hj1⟩ := draw_is hr6 hv6
    have pick : ∃ (sl : Addr) (zs : List Str), atI [L2.V.ref l1, .ref l2, .ref l3] j = some (.ref sl) ∧ Dp K (hid S G4) (.ref sl) (eW zs) ∧ 0 < zs.length ∧ zs.length ≤ 2 ∧ ∀ x ∈ zs, OE x := by
      have hj : j = 0 ∨ j = 1 ∨ j = 2 := by omega
      rcases hj with rfl | rfl | rfl
      · exact ⟨l1, ["odd"], at0, words_dp (.inl (.inl g1)), by decide, by decide, fun x hx => .inl (List.mem_singleton.mp hx)⟩
      · exact ⟨l2, ["even"], at1, words_dp (.inl (.inl g2)), by decide, by decide, fun x hx => .inr (List.mem_singleton.mp hx)⟩
      · refine ⟨l3, ["odd", "even"], at2, words_dp (.inl (.inl g3)), by decide, by decide, fun x hx => ?_⟩
        simp only [List.mem_cons, List.not_mem_nil, or_false] at hx
        exact hx
    obtain ⟨sl, zs, pk, hzd, hz0, hz2, hzo⟩ := pick
    refine ⟨l4, _, j, _, rfl, rfl, .inl (.inl (k6.at ?_ c4)), pk, ?_⟩
    · intro z
      rw [List.mem_singleton.mp z] at c4
      obtain ⟨a, b, c, h1, _⟩ := PG
      rw [h1] at c4
      cases c4
    have k56 := k5.trans (kG.nil.trans k6)
    have hzd6 := Dp.mono (k6.hid (S := S) (pin hp)) hzd
    have hE6 := hE.mono (kG.hid0.trans (k6.hid (S := S) (pin hp))) (Nat.le_refl _)
    refine ⟨_, rfl, _, rfl, _, rfl, n, rfl, by omega, by omega, fun D hD => ?_⟩
    have hpD : p ≠ D := hP6.ne hD
    refine lcRM (K := K) (S := S) (T := [p]) (n := n.toNat) walk_range (fun i H' => Purse H' p (m + 61 + i)) (fun i ds => ∃ ws : List Str, ds = ws.map .str ∧ ws.length = i ∧ ∀ x ∈ ws, OE x) hD (pin hp) (k56.live hS) (by omega) (fun _ _ => trivial) ⟨[], rfl, rfl, by simp⟩ hP6 (fun i H' o h => h.upd hpD) ?_ ?_
    · rintro i x Ha Hb ds Yes hi kp hL hPi ⟨ws, rfl, hws, hwo⟩ ⟨rfl, rfl⟩ yes
      have m6 : Same (hid S H6) (hid (D :: S) Hb) := by
        have q := kp.hid (S := D :: S) fun b hb => List.mem_cons_of_mem _ (pin hp b hb)
        rwa [hid_cons hD] at q
      refine ⟨rfl, _, rfl, _, rfl, D :: S, p, m + 61 + i, _, [eW zs], rfl, hL, List.mem_cons_of_mem _ hp, hPi, by omega, .cons (Dp.mono m6 hzd6) .nil, ⟨_, rfl, by rw [List.length_map]; exact hz0, by rw [List.length_map]; omega⟩, fun v3 H3 d3 k3 hP3 hr3 hv3 => ?_⟩
      obtain ⟨o, ho, rfl⟩ := one_str hr3
      obtain rfl := dp_str hv3
      refine yes _ _ (.str o) k3 hP3 (.str o) ⟨ws ++ [o], by rw [List.map_append]; rfl, by rw [List.length_append, hws]; rfl, fun x hx => ?_⟩
      rcases List.mem_append.mp hx with hx | hx
      · exact hwo x hx
      · rw [List.mem_singleton.mp hx]
        exact hzo o ho
    · rintro H8 ys ds kp hL hP8 ⟨ws, rfl, hws, hwo⟩ hl8 hle da dp
      refine ⟨by show 3 ≤ sizeLine; decide, fun r nr => ?_⟩
      have k68 : Kp [p] H H8 := k56.trans kp
      have sm : Same (hid S H8) (hid S (upd H8 r (.lst [.int n, ev, .ref D]))) := (kp_new nr).hid0
      refine k _ _ (.list [.int n, eP es, eW ws]) (k68.new nr) ((hP8.upd (hP8.ne nr)).mono (by omega)) ⟨n, rfl, _, ws, rfl, hE6.ok, by omega, hwo, hE6.few⟩ ?_
      exact .lst (.inl (.inl (hid_at upd_same (not_mem_of hL nr)))) (.cons (.int _) (.cons (Dp.mono ((kp.hid (pin hp)).trans sm) hE6.dp) (.cons (Dp.mono sm dp) .nil)))
theorem c_l_part (Y : Env K mg C) : Def P w K mg base (Str.ofString "_law_part") 5 ["_law_purse_here", "_law_many"] (spP K 110 dOne6 rPart) := by
  refine def_mk Y.t_l_part sc_l_part bb_l_part (fun vs H Q E h => ?_) (fun f cdv A outer s H vs Q E hr h => ?_)
  · obtain ⟨S, p, m, rest, ds, rfl, hS, hp, hP, hm, h, ⟨n, rfl, _⟩, k⟩ := h
    exact congrArg Nat.succ (DpAll.length h)
  · obtain ⟨S, p, m, rest, ds, rfl, hS, hp, hP, hm, h, ⟨n, rfl, hn1, hn6⟩, k⟩ := h
    obtain ⟨v0, rfl, e0⟩ := da1 h
    obtain rfl := dp_int e0
    refine ⟨_, (pss_cons (ps_set (i := 2) sc_l_part.nd rfl (Or.inl rfl) (pe_def (c_l_draw Y) (hr.mono (by decide)) (pa_cons (pv 0) (pa_cons pe_int pa_nil))))
    (pss_cons (ps_if (pt_cmpR op_lt (pv 2) pe_int (nomark _)) (pss_one (ps_ret (pe_def (c_l_paired_part Y) (hr.mono (by decide)) (pa_cons (pv 0) (pa_cons (pv 1) pa_nil))))) pss_nil)
    (pss_one (ps_ret (pe_ifExp (PW.pt (pw_and (pt_cmpR op_lt (pv 2) pe_int (nomark _)) (pw_and1 (pt_cmpR op_gt (pv 1) pe_int (nomark _))))) (pe_def (c_l_core_part Y) (hr.mono (by decide)) (pa_cons (pv 0) (pa_cons (pv 1) pa_nil))) (pe_def (c_l_family_part Y) (hr.mono (by decide)) (pa_cons (pv 0) (pa_cons (pv 1) pa_nil)))))))), ?_⟩
    refine ⟨_, rfl, S, p, m, _, [.int 7], rfl, hS, hp, hP, by omega, .cons (.int _) .nil, ⟨7, rfl, by decide, by decide⟩, fun v1 H1 d1 k1 hP1 hr1 hv1 => ?_⟩
    obtain ⟨kd, rfl, hkd0, hkd1⟩ := draw_is hr1 hv1
    have hS1 := k1.live hS
    refine ⟨_, rfl, _, _, rfl, rfl, _, rfl, ?_⟩
    refine ite2 (fun _ => ?_) (fun _ => ?_)
    · exact ⟨_, rfl, _, rfl, S, p, m + 1, _, [.int n], rfl, hS1, hp, hP1, by omega, .cons (.int _) .nil, ⟨n, rfl, hn1, hn6⟩, fun v2 H2 d2 k2 hP2 hr2 hv2 => k _ _ d2 (k1.trans k2) (hP2.mono (by omega)) hr2 hv2⟩
    · refine ⟨_, rfl, _, _, rfl, rfl, _, rfl, ?_⟩
      have fam : ∀ (Q' : VK), (∀ v H' d, Kp [p] H H' → Purse H' p (m + 110) → rPart [.int n] d → Dp K (hid S H') v d → Q' v H') → spP K 80 dOne6 rPart [.ref p, .int n] H1 Q' E0 := fun Q' hk =>
        ⟨S, p, m + 1, _, [.int n], rfl, hS1, hp, hP1, by omega, .cons (.int _) .nil, ⟨n, rfl, hn1, hn6⟩, fun v2 H2 d2 k2 hP2 hr2 hv2 => hk _ _ d2 (k1.trans k2) (hP2.mono (by omega)) hr2 hv2⟩
      by_cases h5 : kd < 5
      · refine if_yes (decide_eq_true h5) ?_
        refine ⟨_, rfl, _, _, rfl, rfl, _, rfl, ?_⟩
        by_cases hn5 : n > 5
        · refine if_yes (decide_eq_true hn5) ?_
          have en : n = 6 := by omega
          subst en
          exact ⟨_, rfl, _, rfl, S, p, m + 1, _, [.int 6], rfl, hS1, hp, hP1, by omega, .cons (.int _) .nil, rfl, fun v2 H2 d2 k2 hP2 hr2 hv2 => k _ _ d2 (k1.trans k2) (hP2.mono (by omega)) hr2 hv2⟩
        · refine if_no (decide_eq_false hn5) ?_
          exact ⟨_, rfl, _, rfl, fam _ k⟩
      · refine if_no (decide_eq_false h5) ?_
        exact ⟨_, rfl, _, rfl, fam _ k⟩
end
end K41
namespace K41
open PySem PySem.Spec PyProof.Rows L2 PySem.W
theorem slt_iff {a b : Str} : sLt a b = true ↔ Lt a b := by
  unfold sLt
  rw [decide_eq_true_eq]
theorem lt_or {a b : Str} (h : a ≠ b) : Lt a b ∨ Lt b a := by
  have t := leD_total (enc := PyData.str) a b
  rw [Bool.or_eq_true] at t
  rcases t with t | t
  · exact .inl (lt_of_le_ne t h)
  · exact .inr (lt_of_le_ne t h.symm)
theorem lt_asymm {a b : Str} (h : Lt a b) (k : Lt b a) : False := List.lt_irrefl _ (List.lt_trans h k)
theorem minmax {a b : Str} (h : a ≠ b) : Lt (sMin a b) (sMax a b) ∧ (sMin a b = a ∨ sMin a b = b) ∧ (sMax a b = a ∨ sMax a b = b) := by
  unfold sMin sMax
  rcases lt_or h with h1 | h1
  · have h2 : ¬ sLt b a = true := fun z => lt_asymm h1 (slt_iff.mp z)
    rw [if_neg h2, if_pos (slt_iff.mpr h1)]
    exact ⟨h1, .inl rfl, .inr rfl⟩
  · have h2 : ¬ sLt a b = true := fun z => lt_asymm h1 (slt_iff.mp z)
    rw [if_pos (slt_iff.mpr h1), if_neg h2]
    exact ⟨h1, .inr rfl, .inl rfl⟩
/-- ties are few where lamps are -/
theorem ties_few {ls : List Str} {ts : List (Str × Str)} (h0 : 0 < ls.length) (h8 : ls.length ≤ 8) (hn : ts.Nodup) (h : ∀ t ∈ ts, Lt t.1 t.2 ∧ t.1 ∈ ls ∧ t.2 ∈ ls) : ts.length < 64 := by
  have hlen : ∀ l m : List Str, (l.flatMap fun a => m.map fun b => (a, b)).length = l.length * m.length := fun l m => by
    induction l with
    | nil => simp
    | cons x l ih => rw [List.flatMap_cons, List.length_append, ih, List.length_map, List.length_cons, Nat.succ_mul, Nat.add_comm]
  have hm : (ls[0], ls[0]) ∈ ls.flatMap fun a => ls.map fun b => (a, b) := List.mem_flatMap.mpr ⟨ls[0], List.getElem_mem _, List.mem_map.mpr ⟨ls[0], List.getElem_mem _, rfl⟩⟩
  have q := nodup_len (m := (ls.flatMap fun a => ls.map fun b => (a, b)).erase (ls[0], ls[0])) hn fun t ht => by
    obtain ⟨h1, h2, h3⟩ := h t ht
    refine (List.mem_erase_of_ne fun e => ?_).mpr (List.mem_flatMap.mpr ⟨t.1, h2, List.mem_map.mpr ⟨t.2, h3, rfl⟩⟩)
    rw [e] at h1
    exact h1.ne rfl
  rw [List.length_erase_of_mem hm, hlen] at q
  have : ls.length * ls.length ≤ 8 * 8 := Nat.mul_le_mul h8 h8
  have : 0 < ls.length * ls.length := Nat.mul_pos h0 h0
  omega
/-! a dict of ties -/
theorem putK_keys {κ : Type} [DecidableEq κ] {kvs : List (κ × V)} {k : κ} {v : V} (hn : (kvs.map (·.1)).Nodup) : ((putK kvs k v).map (·.1)).Nodup ∧ ∀ x, x ∈ (putK kvs k v).map (·.1) ↔ x ∈ kvs.map (·.1) ∨ x = k := by
  cases h : valV kvs k with
  | none =>
    refine ⟨nd_putK v hn h, fun x => ?_⟩
    rw [putK_new v h, List.map_append, List.mem_append, List.map_singleton, List.mem_singleton]
  | some u =>
    have hk := valV_in h
    have e : (putK kvs k v).map (·.1) = kvs.map (·.1) := by
      unfold putK
      rw [valV_any, h]
      rw [if_pos (by rfl), List.map_map]
      refine List.map_congr_left fun p _ => ?_
      show (if p.1 = k then (p.1, v) else p).1 = p.1
      split <;> rfl
    rw [e]
    exact ⟨hn, fun x => ⟨.inl, fun z => z.elim id fun z => by rw [z]; exact hk⟩⟩
theorem mergeT_keys : ∀ (more : List (List Key × Addr × V)) (kvs : List (List Key × V)), (kvs.map (·.1)).Nodup → ((mergeT kvs more).map (·.1)).Nodup ∧ ∀ x, x ∈ (mergeT kvs more).map (·.1) ↔ x ∈ kvs.map (·.1) ∨ x ∈ more.map (·.1)
  | [], kvs, hn => ⟨hn, fun x => by simp [mergeT]⟩
  | y :: more, kvs, hn => by
    obtain ⟨h1, h2⟩ := putK_keys (k := y.1) (v := y.2.2) hn
    obtain ⟨h3, h4⟩ := mergeT_keys more _ h1
    refine ⟨h3, fun x => ?_⟩
    show x ∈ (mergeT (putK kvs y.1 y.2.2) more).map (·.1) ↔ _
    rw [h4 x, h2 x, List.map_cons, List.mem_cons, or_assoc]
/-- the dict's keys, as ties -/
theorem keys_ties : ∀ {kks : List (List Key)}, (∀ k ∈ kks, ∃ t : Str × Str, k = [Sum.inr t.1, Sum.inr t.2]) → ∃ ts : List (Str × Str), kks = ts.map fun t => [Sum.inr t.1, Sum.inr t.2]
  | [], _ => ⟨[], rfl⟩
  | k :: kks, h => by
    obtain ⟨t, rfl⟩ := h k (List.mem_cons_self ..)
    obtain ⟨ts, rfl⟩ := keys_ties fun k hk => h k (List.mem_cons_of_mem _ hk)
    exact ⟨t :: ts, rfl⟩
def toT (b : Addr × List Str) : Str × Str := (b.2.getD 0 "", b.2.getD 1 "")
theorem sort_ties {bs : List (Addr × List Str)} {ts : List (Str × Str)} (h : bs.map (·.2) = ts.map fun t => [t.1, t.2]) : ((bs.mergeSort (leD encT)).map toT) = srt eT2 ts := by
  have e : bs.map toT = ts := by
    have q := congrArg (List.map fun l : List Str => (l.getD 0 "", l.getD 1 "")) h
    rw [List.map_map, List.map_map] at q
    have q1 : bs.map toT = ts.map (fun t => (t.1, t.2)) := q
    rw [q1]
    exact (List.map_congr_left fun t _ => rfl).trans (List.map_id ts)
  have key : ∀ b ∈ bs, encT b = eT2 (toT b) := fun b hb => by
    have hm : b.2 ∈ bs.map (·.2) := List.mem_map.mpr ⟨b, hb, rfl⟩
    rw [h] at hm
    obtain ⟨t, _, et⟩ := List.mem_map.mp hm
    unfold encT toT eT2
    rw [← et]
    rfl
  have q := sort_maps (r := leD encT) (s := leD eT2) toT (l := bs) fun a ha b hb => by
    show dataLe false encT a b = dataLe false eT2 (toT a) (toT b)
    rw [dataLe_eq, dataLe_eq]
    show (!dataLt (encT b) (encT a)) = (!dataLt (eT2 (toT b)) (eT2 (toT a)))
    rw [key a ha, key b hb]
  rw [q, e]
  rfl
/-- no tuple is hidden -/
def NoTup (S : List Addr) (H : Hp) : Prop := ∀ a ∈ S, ∃ xs, H a = some (.lst xs)
theorem NoTup.kp {S : List Addr} {H H' : Hp} (h : NoTup S H) (k : Kp [] H H') : NoTup S H' := fun a ha => by
  obtain ⟨xs, e⟩ := h a ha
  exact ⟨xs, k.same _ _ e⟩
theorem NoTup.live {S : List Addr} {H : Hp} (h : NoTup S H) : Live S H := fun a ha e => by
  obtain ⟨xs, q⟩ := h a ha
  rw [e] at q
  cases q
theorem NoTup.not {S : List Addr} {H : Hp} (h : NoTup S H) {a : Addr} {xs : List V} (e : H a = some (.tup xs)) : a ∉ S := fun z => by
  obtain ⟨ys, q⟩ := h a z
  rw [e] at q
  cases q
theorem Purse.noTup {H : Hp} {p : Addr} {m : Nat} (h : Purse H p m) : NoTup [p] H := fun a ha => by
  rw [List.mem_singleton.mp ha]
  obtain ⟨a, b, c, h1, _⟩ := h
  exact ⟨_, h1⟩
/-- what a new dict of ties, sorted, is -/
theorem sorted_ties {K : PySem.W.Frag} {S : List Addr} {H : Hp} (hS : NoTup S H) {bs : List (Addr × List Str)} {ts : List (Str × Str)} (h : bs.map (·.2) = ts.map fun t => [t.1, t.2]) (hb : ∀ b ∈ bs, H b.1 = some (.tup (b.2.map V.str))) :
    DpAll K (hid S H) ((bs.mergeSort (leD encT)).map fun b => V.ref b.1) ((srt eT2 ts).map eT2) := by
  rw [← sort_ties h]
  have q : ∀ l : List (Addr × List Str), (∀ b ∈ l, b ∈ bs) → DpAll K (hid S H) (l.map fun b => V.ref b.1) ((l.map toT).map eT2) := fun l => by
    induction l with
    | nil => exact fun _ => .nil
    | cons b l ih =>
      intro hl
      have hbb := hl b (List.mem_cons_self ..)
      have hm : b.2 ∈ bs.map (·.2) := List.mem_map.mpr ⟨b, hbb, rfl⟩
      rw [h] at hm
      obtain ⟨t, _, et⟩ := List.mem_map.mp hm
      have ht : H b.1 = some (.tup [.str (toT b).1, .str (toT b).2]) := by
        rw [hb b hbb]
        unfold toT
        rw [← et]
        rfl
      exact .cons (tie_dp (.inl (.inl (hid_at ht (hS.not ht))))) (ih fun x hx => hl x (List.mem_cons_of_mem _ hx))
  exact q _ fun b hb' => (List.mergeSort_perm ..).mem_iff.mp hb'
/-- pairs of a lamp and its wish, as the new dict's items -/
theorem da_kv {K : PySem.W.Frag} {H : Hp} {g : Str → Str} : ∀ {ws : List Str} {xs : List V}, DpAll K H xs (ws.map fun l => .tuple [.str l, .str (g l)]) → ∃ ps : List Addr, xs = ps.map V.ref ∧ Paired (fun p (kv : Key × V) => SqT K H p [kV kv.1, kv.2]) ps (fk ws fun l => .str (g l))
  | [], xs, h => ⟨[], da_nil h, .nil⟩
  | w :: ws, xs, h => by
    obtain ⟨v, us, rfl, h1, h2⟩ := da_cons h
    obtain ⟨a, ys, rfl, h3, h4⟩ := dp_tuple h1
    obtain ⟨x, y, rfl, e1, e2⟩ := da2 h4
    obtain rfl := dp_str e1
    obtain rfl := dp_str e2
    obtain ⟨ps, rfl, hp⟩ := da_kv h2
    exact ⟨a :: ps, rfl, .cons h3 hp⟩
theorem paired_mono {α β : Type} {F G : α → β → Prop} (h : ∀ a b, F a b → G a b) : ∀ {l : List α} {m : List β}, Paired F l m → Paired G l m
  | _, _, .nil => .nil
  | _, _, .cons x y => .cons (h _ _ x) (paired_mono h y)
end K41
namespace K41
open PySem PySem.Spec PyProof.Rows L2 PySem.W
section
variable {P : Program} {w : World} {K : PySem.W.Frag} {mg : Str → Option Value} {base : Heap} {C : Addr}
def ePt (q : List (Int × Int) × List Str) : PyData := .list [.int (q.2.length : Int), eP q.1, eW q.2]
structure PartOk (q : List (Int × Int) × List Str) : Prop where
  edges : ∀ e ∈ q.1, EdgeOk q.2.length e
  few : q.1.length ≤ 100
  oe : ∀ x ∈ q.2, OE x
theorem part_of {n : Int} {d : PyData} (h : PartD n d) : ∃ q, d = ePt q ∧ PartOk q ∧ n = (q.2.length : Int) := by
  obtain ⟨es, ws, rfl, h1, h2, h3, h4⟩ := h
  exact ⟨(es, ws), by unfold ePt; rw [h2], ⟨by rw [h2]; exact h1, h4, h3⟩, h2.symm⟩
def bsum (qs : List (List (Int × Int) × List Str)) : Nat := (qs.map fun q => q.2.length).sum
theorem bsum_snoc (qs : List (List (Int × Int) × List Str)) (q) : bsum (qs ++ [q]) = bsum qs + q.2.length := by
  unfold bsum
  rw [List.map_append, List.sum_append, List.map_singleton, List.sum_singleton]
theorem bsum_take (qs : List (List (Int × Int) × List Str)) (i : Nat) : bsum (qs.take i) ≤ bsum qs := by
  have e : bsum qs = bsum (qs.take i) + bsum (qs.drop i) := by
    unfold bsum
    rw [← List.sum_append, ← List.map_append, List.take_append_drop]
  omega
theorem paired_map {α β γ : Type} {F : α → γ → Prop} {g : β → γ} : ∀ {l : List α} {m : List β}, Paired (fun a b => F a (g b)) l m → Paired F l (m.map g)
  | _, _, .nil => .nil
  | _, _, .cons x y => .cons x (paired_map y)
def spNetOf (K : PySem.W.Frag) : Sp := fun vs H Q _ => ∃ (S : List Addr) (u1 u2 u3 : L2.V) (ws : List Str) (qs : List (List (Int × Int) × List Str)) (st : List (Int × Int)), vs = [u1, u2, u3] ∧ NoTup S H ∧ Dp K (hid S H) u1 (eW ws) ∧ Dp K (hid S H) u2 (.list (qs.map ePt)) ∧ Dp K (hid S H) u3 (eP st) ∧
  ws.Nodup ∧ (∀ x ∈ ws, Word x) ∧ 0 < ws.length ∧ ws.length ≤ 8 ∧ (∀ q ∈ qs, PartOk q) ∧ bsum qs ≤ ws.length ∧ qs.length ≤ 2 ∧ (∀ e ∈ st, EdgeOk ws.length e) ∧ st.length ≤ 100 ∧
  ∀ v H' N, Kp [] H H' → LNet K (hid S H') v N → Good N → Q v H'
theorem fk_wish {ws : List Str} {k : Nat} {l : Str} {x : Str} {wish : Str → Str} (hn : ws.Nodup) (hl : ws[k]? = some l) : putK (fk (ws.take k) fun l => .str (wish l)) (Sum.inr l : Key) (.str x) = fk (ws.take (k + 1)) fun m => .str (if m = l then x else wish m) := by
  have hni := notin_take hn hl
  have e1 : (fun m : Str => L2.V.str (if m = l then x else wish m)) l = .str x := by
    show L2.V.str (if l = l then x else wish l) = _
    rw [if_pos rfl]
  rw [fk_snoc hni, take_snoc' hl]
  refine Eq.trans ?_ (fk_app (ws := ws.take k) e1)
  refine congrArg (· ++ _) (fk_congr fun m hm => ?_)
  show L2.V.str (wish m) = .str (if m = l then x else wish m)
  rw [if_neg fun e : m = l => hni (e ▸ hm)]
theorem word_at {H : Hp} {b : Addr} {ws : List Str} (hb : SqL K H b (ws.map L2.V.str)) {i : Int} (h0 : 0 ≤ i) (h1 : i < ws.length) : ∃ j : Nat, ∃ hj : j < ws.length, i = (j : Int) ∧ atI (ws.map L2.V.str) i = some (.str ws[j]) := by
  obtain ⟨j, rfl⟩ := Int.eq_ofNat_of_zero_le h0
  have hj : j < ws.length := by omega
  exact ⟨j, hj, rfl, atI_nat (by rw [List.getElem?_map, List.getElem?_eq_getElem hj]; rfl)⟩
def tieOf (ws : List Str) (e : Int × Int) : Str × Str := (sMin (ws.getD e.1.toNat "") (ws.getD e.2.toNat ""), sMax (ws.getD e.1.toNat "") (ws.getD e.2.toNat ""))
theorem tieOf_ok {ws : List Str} (hn : ws.Nodup) {e : Int × Int} (h : EdgeOk ws.length e) : Lt (tieOf ws e).1 (tieOf ws e).2 ∧ (tieOf ws e).1 ∈ ws ∧ (tieOf ws e).2 ∈ ws := by
  obtain ⟨h0, h1, h2⟩ := h
  have a1 : e.1.toNat < ws.length := by omega
  have a2 : e.2.toNat < ws.length := by omega
  have e1 : ws.getD e.1.toNat "" = ws[e.1.toNat] := by rw [List.getD_eq_getElem?_getD, List.getElem?_eq_getElem a1]; rfl
  have e2 : ws.getD e.2.toNat "" = ws[e.2.toNat] := by rw [List.getD_eq_getElem?_getD, List.getElem?_eq_getElem a2]; rfl
  have ne : ws[e.1.toNat] ≠ ws[e.2.toNat] := fun z => by
    have := (List.getElem_inj hn (h₀ := a1) (h₁ := a2)).mp z
    omega
  obtain ⟨m1, m2, m3⟩ := minmax ne
  unfold tieOf
  rw [e1, e2]
  refine ⟨m1, ?_, ?_⟩
  · rcases m2 with z | z <;> (show sMin _ _ ∈ ws; rw [z]; exact List.getElem_mem _)
  · rcases m3 with z | z <;> (show sMax _ _ ∈ ws; rw [z]; exact List.getElem_mem _)
theorem c_l_net_of (Y : Env K mg C) : Def P w K mg base (Str.ofString "_law_net_of") 1 ["_law_words_here", "_law_parts", "_law_stuck"] (spNetOf K) := by
  refine def_mk Y.t_l_net_of sc_l_net_of bb_l_net_of (fun vs H Q E h => ?_) (fun f cdv A outer s H vs Q E hr h => ?_)
  · obtain ⟨S, u1, u2, u3, ws, qs, st, rfl, _⟩ := h
    rfl
  · obtain ⟨S, u1, u2, u3, ws, qs, st, rfl, hNT, h1, h2, h3, hnd, hww, hw0, hw8, hqs, hbs, hq2, hst, hsl, k⟩ := h
    have hS := hNT.live
    have hu := hu_of hr
    have two : 2 ≤ sizeLine := by decide
    obtain ⟨a, rfl, hl⟩ := dp_words h1
    obtain ⟨qa, qx, rfl, hql, hqd⟩ := dp_list h2
    refine ⟨_, (pss_cons (ps_asg (pe_tup (pa_cons (pe_callTy (K_list (K := K) rfl) (by rfl) Y.n_list (by decide +kernel) (pa_cons (pv 0) pa_nil)) (pa_cons (pe_lst pa_nil) (pa_cons pe_dnewK (pa_cons pe_int pa_nil))))) (K_pgtup (K := K) (n := 4) rfl rfl (pgs_cons (pg_name (i := 5) sc_l_net_of.nd rfl (Or.inr rfl)) (pgs_cons (pg_name (i := 6) sc_l_net_of.nd rfl (Or.inl rfl)) (pgs_cons (pg_name (i := 7) sc_l_net_of.nd rfl (Or.inr rfl)) (pgs_cons (pg_name (i := 8) sc_l_net_of.nd rfl (Or.inr rfl)) pgs_nil))))))
    (pss_cons (ps_for PassesOwn.never rfl (K_pil (K := K) rfl (pv 1)) (pg_lst rfl (pgs_cons (pg_name (i := 9) sc_l_net_of.nd rfl (Or.inl rfl)) (pgs_cons (pg_name (i := 10) sc_l_net_of.nd rfl (Or.inl rfl)) (pgs_cons (pg_name (i := 11) sc_l_net_of.nd rfl (Or.inl rfl)) pgs_nil))))
    (pss_cons (ps_set (i := 6) sc_l_net_of.nd rfl (Or.inl rfl) (pe_op (K_cat (K := K) rfl) (pv 6) (pe_lc (own := [("_law_one", 13), ("_law_other", 14)]) rfl sc_l_net_of.nd (K_pil (K := K) rfl (pv 10)) (blkOk_by (own := [("_law_one", 13), ("_law_other", 14)]) (N := ["_law_words_here", "_law_parts", "_law_stuck", "_law_late", "_law_named", "_law_bulbs", "_law_edges", "_law_wants", "_law_begin", "_law_many", "_law_inner", "_law_told", "_law_at", "_law_one", "_law_other", "_law_lamp", "_law_edge"]) (sc := defScope s_l_net_of) (by decide +kernel)) (fun _ _ _ _ _ => (K_pgtup (K := K) (n := 2) rfl rfl (pgs_cons (pg_name (i := 13) sc_l_net_of.nd rfl (Or.inl rfl)) (pgs_cons (pg_name (i := 14) sc_l_net_of.nd rfl (Or.inl rfl)) pgs_nil)))) (fun _ _ _ _ _ => pts_nil) (fun _ _ _ _ _ => (pe_tup (pa_cons (pe_op op_add (pv 8) (pv 13)) (pa_cons (pe_op op_add (pv 8) (pv 14)) pa_nil)))))))
    (pss_cons (ps_for PassesOwn.never rfl (pi_range1 rfl Y.n_range (pa_cons (pv 9) pa_nil)) (pg_name (i := 12) sc_l_net_of.nd rfl (Or.inl rfl))
    (pss_one (ps_dput (hu_of hr) (pv 7) (pe_ix (K_ixL (K := K) rfl) (pv 5) (pe_op op_add (pv 8) (pv 12)) (fun _ _ => rfl)) (pe_ix (K_ixL (K := K) rfl) (pv 11) (pv 12) (fun _ _ => rfl)) rfl)))
    (pss_one (ps_set (i := 8) sc_l_net_of.nd rfl (Or.inr rfl) (pe_op op_add (pv 8) (pv 9)))))))
    (pss_cons (ps_for PassesOwn.never rfl (pi_range2 rfl Y.n_range (pa_cons (pv 8) (pa_cons (pe_callB (K_len (K := K) rfl) (by rfl) Y.n_len (by decide +kernel) (pa_cons (pv 5) pa_nil)) pa_nil))) (pg_name (i := 3) sc_l_net_of.nd rfl (Or.inl rfl))
    (pss_one (ps_dput (hu_of hr) (pv 7) (pe_ix (K_ixL (K := K) rfl) (pv 5) (pv 3) (fun _ _ => rfl)) pe_str rfl)))
    (pss_cons (ps_setLc (i := 4) (own := [("_law_one", 13), ("_law_other", 14)]) rfl sc_l_net_of.nd rfl rfl (sw_true rfl rfl rfl (by decide +kernel)) (K_pil (K := K) rfl (pe_op (K_cat (K := K) rfl) (pv 6) (pv 2))) (blkOk_by (own := [("_law_one", 13), ("_law_other", 14)]) (N := ["_law_words_here", "_law_parts", "_law_stuck", "_law_late", "_law_named", "_law_bulbs", "_law_edges", "_law_wants", "_law_begin", "_law_many", "_law_inner", "_law_told", "_law_at", "_law_one", "_law_other", "_law_lamp", "_law_edge"]) (sc := defScope s_l_net_of) (by decide +kernel)) (fun _ _ _ _ _ => (K_pgtup (K := K) (n := 2) rfl rfl (pgs_cons (pg_name (i := 13) sc_l_net_of.nd rfl (Or.inl rfl)) (pgs_cons (pg_name (i := 14) sc_l_net_of.nd rfl (Or.inl rfl)) pgs_nil)))) (fun _ _ _ _ _ => pts_nil) (fun _ _ _ _ _ => (pe_tup (pa_cons (pe_callB (call_minS rfl) (by rfl) Y.n_min (by decide +kernel) (pa_cons (pe_ix (K_ixL (K := K) rfl) (pv 5) (pv 13) (fun _ _ => rfl)) (pa_cons (pe_ix (K_ixL (K := K) rfl) (pv 5) (pv 14) (fun _ _ => rfl)) pa_nil))) (pa_cons (pe_callB (call_maxS rfl) (by rfl) Y.n_max (by decide +kernel) (pa_cons (pe_ix (K_ixL (K := K) rfl) (pv 5) (pv 13) (fun _ _ => rfl)) (pa_cons (pe_ix (K_ixL (K := K) rfl) (pv 5) (pv 14) (fun _ _ => rfl)) pa_nil))) pa_nil)))))
    (pss_cons (ps_set (i := 5) sc_l_net_of.nd rfl (Or.inr rfl) (pe_callB (K_sort (K := K) rfl (hu100 hr)) (by rfl) Y.n_sorted (by decide +kernel) (pa_cons (pv 5) pa_nil)))
    (pss_one (ps_ret (pe_lst (pa_cons (pv 5) (pa_cons (pe_callB (call_sortT rfl (hu100 hr)) (by rfl) Y.n_sorted (by decide +kernel) (pa_cons (pe_callTy (K_dictT (K := K) rfl rfl (hu10 hr)) (by rfl) Y.n_dict (by decide +kernel) (pa_cons (pe_lc (own := [("_law_edge", 16)]) rfl sc_l_net_of.nd (K_pil (K := K) rfl (pv 4)) (blkOk_by (own := [("_law_edge", 16)]) (N := ["_law_words_here", "_law_parts", "_law_stuck", "_law_late", "_law_named", "_law_bulbs", "_law_edges", "_law_wants", "_law_begin", "_law_many", "_law_inner", "_law_told", "_law_at", "_law_one", "_law_other", "_law_lamp", "_law_edge"]) (sc := defScope s_l_net_of) (by decide +kernel)) (fun _ _ _ _ _ => (pg_name (i := 16) sc_l_net_of.nd rfl (Or.inl rfl))) (fun _ _ _ _ _ => pts_nil) (fun _ _ _ _ _ => (pe_tup (pa_cons (pv 16) (pa_cons pe_bl pa_nil))))) pa_nil)) pa_nil)) (pa_cons (pe_callTy (K_dict (K := K) rfl rfl) (by rfl) Y.n_dict (by decide +kernel) (pa_cons (pe_lc (own := [("_law_lamp", 15)]) rfl sc_l_net_of.nd (K_pil (K := K) rfl (pv 5)) (blkOk_by (own := [("_law_lamp", 15)]) (N := ["_law_words_here", "_law_parts", "_law_stuck", "_law_late", "_law_named", "_law_bulbs", "_law_edges", "_law_wants", "_law_begin", "_law_many", "_law_inner", "_law_told", "_law_at", "_law_one", "_law_other", "_law_lamp", "_law_edge"]) (sc := defScope s_l_net_of) (by decide +kernel)) (fun _ _ _ _ _ => (pg_name (i := 15) sc_l_net_of.nd rfl (Or.inl rfl))) (fun _ _ _ _ _ => pts_nil) (fun _ _ _ _ _ => (pe_tup (pa_cons (pv 15) (pa_cons (pe_dget (hu_of hr) (pv 7) (pv 15) (fun _ _ => rfl)) pa_nil))))) pa_nil)) pa_nil))))))))))), ?_⟩
    refine ⟨_, rfl, a, _, rfl, .inl (hid_le.seq hl), fun b nb => ⟨Nat.zero_le _, fun e0 ne0 => fun d nd => ⟨by show 4 ≤ sizeLine; decide, fun tp ntp => ?_⟩⟩⟩
    have k1 : Kp [] H (upd H b (.lst (ws.map L2.V.str))) := kp_new nb
    have b1 : (upd H b (.lst (ws.map L2.V.str))) b = some (.lst (ws.map L2.V.str)) := upd_same
    generalize (upd H b (.lst (ws.map L2.V.str))) = H1 at *
    have k2 : Kp [] H1 (upd H1 e0 (.lst [])) := kp_new ne0
    have e2 : (upd H1 e0 (.lst [])) e0 = some (.lst []) := upd_same
    generalize (upd H1 e0 (.lst [])) = H2 at *
    have k3 : Kp [] H2 (upd H2 d (.dK [])) := kp_new nd
    have d3 : (upd H2 d (.dK [])) d = some (.dK []) := upd_same
    generalize (upd H2 d (.dK [])) = H3 at *
    refine ⟨tp, _, rfl, .inl (.inl upd_same), rfl, _, _, rfl, _, _, rfl, _, _, rfl, _, _, rfl, rfl, ?_⟩
    have k4 : Kp [] H3 (upd H3 tp (.tup [.ref b, .ref e0, .ref d, .int 0])) := kp_new ntp
    generalize (upd H3 tp (.tup [.ref b, .ref e0, .ref d, .int 0])) = H4 at *
    have kH : Kp [] H H4 := ((k1.trans k2).trans k3).trans k4
    have d4 : H4 d = some (.dK []) := k4.same _ _ d3
    have b4 : H4 b = some (.lst (ws.map L2.V.str)) := ((k2.trans k3).trans k4).same _ _ b1
    have nd0 : H d = none := (k1.trans k2).free nd
    have dS : d ∉ S := not_mem_of hS nd0
    have LS : ∀ {H' : Hp}, Kp [] H H' → H' d ≠ none → Live (d :: S) H' := fun kk hd a ha => by
      rcases List.mem_cons.mp ha with rfl | ha
      · exact hd
      · exact kk.live hS a ha
    have ebd : b ≠ d := fun e => by rw [e, d4] at b4; cases b4
    have fS : ∀ {H' : Hp}, Kp [] H H' → Same (hid S H) (hid (d :: S) H') := fun kk => by
      rw [← hid_cons nd0]
      exact kk.hid0
    have E4 : EdgesAt K (hid (d :: S) H4) (.ref e0) ws.length 0 [] := ⟨.lst (.inl (.inl (hid_at (((k3.trans k4).same _ _ e2)) (by
      intro z
      rcases List.mem_cons.mp z with z | z
      · have q := (k3.trans k4).same _ _ e2
        rw [z, d4] at q
        cases q
      · exact not_mem_of (k1.live hS) ne0 z)))) .nil, by simp, Nat.le_refl _⟩
    -- for many, inner, told in parts
    refine ⟨_, rfl, qa, rfl, ⟨_, kH.same.seq (hid_le.seq hql)⟩, ?_⟩
    refine for_it (walkD hqd) (fun i σ H' => ∃ (ev : L2.V) (es : List (Int × Int)) (wish : Str → Str) (o9 o10 o11 o12 : Option L2.V), σ = [some (.ref a), some (.ref qa), some u3, none, none, some (.ref b), some ev, some (.ref d), some (.int (bsum (qs.take i) : Int)), o9, o10, o11, o12, none, none, none, none] ∧ Kp [] H H' ∧
        H' b = some (.lst (ws.map L2.V.str)) ∧ H' d = some (.dK (fk (ws.take (bsum (qs.take i))) fun l => .str (wish l))) ∧ (∀ l ∈ ws.take (bsum (qs.take i)), OE (wish l)) ∧ EdgesAt K (hid (d :: S) H') ev ws.length (100 * i) es)
      ⟨_, [], fun _ => "", _, _, _, _, rfl, kH, b4, d4, by simp [bsum], E4⟩ (fun i σ H' _ ⟨_, _, _, _, _, _, _, _, kk, _⟩ => kk.same.seq (hid_le.seq hql)) ?_ ?_
    · rintro i x σ Ha Hb hi ⟨ev, es, wish, o9, o10, o11, o12, rfl, ka, ba, da, oa, Ea⟩ ⟨rfl, y⟩
      have hg := List.getElem?_eq_getElem hi
      have hq := Dp.mono (fS ka) (y _ hg)
      have hok := hqs _ (List.getElem_mem hi)
      obtain ⟨pa, px, rfl, hp1, hp2⟩ := dp_list hq
      obtain ⟨v1, v2, v3, rfl, p1, p2, p3⟩ := da3 hp2
      obtain rfl := dp_int p1
      have hBn : bsum (qs.take i) + qs[i].2.length ≤ ws.length := by
        have q := bsum_take qs (i + 1)
        rw [take_snoc' hg, bsum_snoc] at q
        omega
      have etake : bsum (qs.take (i + 1)) = bsum (qs.take i) + qs[i].2.length := by rw [take_snoc' hg, bsum_snoc]
      generalize bsum (qs.take i) = B at *
      refine ⟨pa, _, rfl, hid_le.seq hp1, rfl, _, _, rfl, _, _, rfl, _, _, rfl, rfl, ?_⟩
      obtain ⟨ia, ix, rfl, hi1, hi2⟩ := dp_list p2
      obtain ⟨ta, rfl, ht⟩ := dp_words p3
      have La : Live (d :: S) Hb := LS ka (by rw [da]; exact fun z => (nomatch z))
      -- edges
      refine ⟨_, rfl, _, rfl, ia, rfl, ⟨_, hid_le.seq hi1⟩, fun D hD => ?_⟩
      refine lcS (K := K) (S := d :: S) (walkD hi2) (fun e => eP2 ((B : Int) + e.1, (B : Int) + e.2)) hD La (by have := hok.few; omega) (fun H' kp => kp.same.seq (hid_le.seq hi1)) ?_ ?_
      · rintro j e x1 Hc Hd Yes hj kp hL ⟨rfl, y2⟩ yes
        obtain ⟨q, rfl, hqt⟩ := dp_pair (y2 _ hj)
        exact ⟨q, _, rfl, Same.tup (hid_le.trans kp.same) hqt, rfl, _, _, rfl, _, _, rfl, rfl, rfl, _, rfl, _, rfl, _, _, rfl, rfl, _, rfl, _, rfl, _, _, rfl, rfl, two, fun T nT => yes _ _ (kp_new nT) (pair_dp (.inl (.inl (hid_at upd_same (not_mem_of hL nT)))))⟩
      intro Hc ys kc hLc hlc hlec dac dpc
      have eqE : PyData.list (qs[i].1.map fun e => eP2 ((B : Int) + e.1, (B : Int) + e.2)) = .list ((qs[i].1.map fun e => ((B : Int) + e.1, (B : Int) + e.2)).map eP2) := by rw [List.map_map]; rfl
      rw [eqE] at dpc
      have Ec := Ea.mono (kc.hid0 (S := d :: S)) (Nat.le_refl _)
      refine cat_ans hLc Ec.dp dpc (by rw [List.length_map, List.length_map, List.length_map]; have := Ec.few; have := hok.few; omega) fun ne xs nne hxs _ dq => ?_
      rw [eP_app] at dq
      have kd := (ka.trans kc).new (o := .lst xs) nne
      have Ed : EdgesAt K (hid (d :: S) (upd Hc ne (.lst xs))) (.ref ne) ws.length (100 * (i + 1)) (es ++ qs[i].1.map fun e => ((B : Int) + e.1, (B : Int) + e.2)) := ⟨dq, fun e he => by
        rcases List.mem_append.mp he with he | he
        · exact Ec.ok e he
        · obtain ⟨e', he', rfl⟩ := List.mem_map.mp he
          obtain ⟨z0, z1, z2⟩ := hok.edges e' he'
          exact ⟨by show 0 ≤ (B : Int) + e'.1; omega, by show (B : Int) + e'.1 < (B : Int) + e'.2; omega, by show (B : Int) + e'.2 < _; omega⟩, by
        rw [List.length_append, List.length_map]
        have := Ec.few
        have := hok.few
        omega⟩
      have kcd : Kp [] Hb (upd Hc ne (.lst xs)) := kc.new nne
      have bd := kcd.same _ _ ba
      have dd := kcd.same _ _ da
      have td : SqL K (hid (d :: S) (upd Hc ne (.lst xs))) ta (qs[i].2.map L2.V.str) := kcd.hid0.seq ht
      generalize (upd Hc ne (.lst xs)) = Hd at kd Ed kcd bd dd td ⊢
      -- wants
      refine ⟨_, rfl, (qs[i].2.length : Int), rfl, by omega, by omega, ?_⟩
      refine for_it (n := ((qs[i].2.length : Nat) : Int).toNat) walk_range (fun j σ H' => ∃ (wish : Str → Str) (o12 : Option L2.V), σ = [some (.ref a), some (.ref qa), some u3, none, none, some (.ref b), some (.ref ne), some (.ref d), some (.int (B : Int)), some (.int (qs[i].2.length : Int)), some (.ref ia), some (.ref ta), o12, none, none, none, none] ∧ Kp [d] Hd H' ∧ Kp [] H H' ∧
          H' d = some (.dK (fk (ws.take (B + j)) fun l => .str (wish l))) ∧ ∀ l ∈ ws.take (B + j), OE (wish l))
        ⟨wish, _, rfl, .refl, kd, dd, oa⟩ (fun _ _ _ _ _ => trivial) ?_ ?_
      · rintro j x σ He Hf hj ⟨wish, o12, rfl, kde, ke, de, oe⟩ ⟨rfl, rfl⟩
        have hj2 : j < qs[i].2.length := by omega
        have bs : SqL K Hf b (ws.map L2.V.str) := .inl (.inl (kde.at (by simpa using ebd) bd))
        have ts : SqL K Hf ta (qs[i].2.map L2.V.str) := hid_le.seq ((kde.hid (S := d :: S) fun z hz => by rw [List.mem_singleton.mp hz]; exact List.mem_cons_self ..).seq td)
        have g1 : atI (qs[i].2.map L2.V.str) (0 + (j : Int)) = some (.str qs[i].2[j]) := by rw [Int.zero_add]; exact atI_nat (by rw [List.getElem?_map, List.getElem?_eq_getElem hj2]; rfl)
        have hk : B + j < ws.length := by omega
        have g2 : atI (ws.map L2.V.str) ((B : Int) + (0 + (j : Int))) = some (.str ws[B + j]) := by
          rw [show (B : Int) + (0 + (j : Int)) = ((B + j : Nat) : Int) by omega]
          exact atI_nat (by rw [List.getElem?_map, List.getElem?_eq_getElem hk]; rfl)
        have put := DPut.k (k := (Sum.inr ws[B + j] : Key)) (v := .str qs[i].2[j]) de (by rw [fk_len, List.length_take, sizeLine_eq]; omega)
        rw [fk_wish hnd (List.getElem?_eq_getElem hk)] at put
        refine ⟨_, rfl, _, rfl, ta, _, _, _, rfl, rfl, ts, g1, _, rfl, _, rfl, _, rfl, _, rfl, _, _, rfl, rfl, b, _, _, _, rfl, rfl, bs, g2, d, _, rfl, put, ?_⟩
        refine ⟨fun m => if m = ws[B + j] then qs[i].2[j] else wish m, _, rfl, kde.own (List.mem_singleton.mpr rfl), ke.put nd0, upd_same, fun l hl => ?_⟩
        by_cases e : l = ws[B + j]
        · show OE (if l = ws[B + j] then _ else _)
          rw [if_pos e]
          exact hok.oe _ (List.getElem_mem _)
        · show OE (if l = ws[B + j] then _ else _)
          rw [if_neg e]
          refine oe l ?_
          have hl' : l ∈ ws.take (B + j + 1) := hl
          rw [take_snoc' (List.getElem?_eq_getElem hk)] at hl'
          exact (List.mem_append.mp hl').resolve_right fun z => e (List.mem_singleton.mp z)
      · rintro σ He ⟨wish, o12, rfl, kde, ke, de, oe⟩
        refine ⟨_, rfl, _, rfl, _, _, rfl, rfl, ?_⟩
        refine ⟨.ref ne, _, wish, some (.int (qs[i].2.length : Int)), some (.ref ia), some (.ref ta), o12, ?_, ke, kde.at (by simpa using ebd) bd, ?_, ?_, Ed.mono (kde.hid fun z hz => by rw [List.mem_singleton.mp hz]; exact List.mem_cons_self ..) (Nat.le_refl _)⟩
        · rw [etake]
          rfl
        · rw [etake]
          exact de
        · rw [etake]
          exact oe
    rintro σ H5 ⟨ev, es, wish, o9, o10, o11, o12, rfl, k5, b5, d5, oe5, E5⟩
    rw [List.take_length] at d5 oe5
    have etl : bsum (qs.take qs.length) = bsum qs := by rw [List.take_length]
    rw [etl]
    have kk5 := k5
    -- for late in range(begin, len(bulbs))
    refine ⟨_, rfl, _, rfl, b, _, rfl, .inl (.inl (.inl b5)), (bsum qs : Int), ((ws.map L2.V.str).length : Int), rfl, by rw [List.length_map]; omega, ?_⟩
    rw [List.length_map]
    refine for_it (n := (((ws.length : Nat) : Int) - (bsum qs : Int)).toNat) walk_range (fun j σ H' => ∃ (wish : Str → Str) (o3 : Option L2.V), σ = [some (.ref a), some (.ref qa), some u3, o3, none, some (.ref b), some ev, some (.ref d), some (.int (bsum qs : Int)), o9, o10, o11, o12, none, none, none, none] ∧ Kp [d] H5 H' ∧ Kp [] H H' ∧
        H' d = some (.dK (fk (ws.take (bsum qs + j)) fun l => .str (wish l))) ∧ ∀ l ∈ ws.take (bsum qs + j), wish l ∈ (["odd", "even", "stuck"] : List Str))
      ⟨wish, _, rfl, .refl, k5, d5, fun l hl => by rcases oe5 l hl with e | e <;> simp [e]⟩ (fun _ _ _ _ _ => trivial) ?_ ?_
    · rintro j x σ He Hf hj ⟨wish, o3, rfl, kde, ke, de, oe⟩ ⟨rfl, rfl⟩
      have hk : bsum qs + j < ws.length := by omega
      have bs : SqL K Hf b (ws.map L2.V.str) := .inl (.inl (kde.at (by simpa using ebd) b5))
      have g2 : atI (ws.map L2.V.str) ((bsum qs : Int) + (j : Int)) = some (.str ws[bsum qs + j]) := by
        rw [show (bsum qs : Int) + (j : Int) = ((bsum qs + j : Nat) : Int) by omega]
        exact atI_nat (by rw [List.getElem?_map, List.getElem?_eq_getElem hk]; rfl)
      have put := DPut.k (k := (Sum.inr ws[bsum qs + j] : Key)) (v := .str "stuck") de (by rw [fk_len, List.length_take, sizeLine_eq]; omega)
      rw [fk_wish hnd (List.getElem?_eq_getElem hk)] at put
      refine ⟨_, rfl, _, rfl, _, rfl, b, _, _, _, rfl, rfl, bs, g2, d, _, rfl, put, ?_⟩
      refine ⟨fun m => if m = ws[bsum qs + j] then "stuck" else wish m, _, rfl, kde.own (List.mem_singleton.mpr rfl), ke.put nd0, upd_same, fun l hl => ?_⟩
      by_cases e : l = ws[bsum qs + j]
      · show (if l = ws[bsum qs + j] then _ else _) ∈ _
        rw [if_pos e]
        simp
      · show (if l = ws[bsum qs + j] then _ else _) ∈ _
        rw [if_neg e]
        refine oe l ?_
        have hl' : l ∈ ws.take (bsum qs + j + 1) := hl
        rw [take_snoc' (List.getElem?_eq_getElem hk)] at hl'
        exact (List.mem_append.mp hl').resolve_right fun z => e (List.mem_singleton.mp z)
    rintro σ H6 ⟨wish, o3, rfl, k56, k6, d6, ow⟩
    have efull : ws.take (bsum qs + (((ws.length : Nat) : Int) - (bsum qs : Int)).toNat) = ws := List.take_of_length_le (by omega)
    rw [efull] at d6 ow
    have b6 : H6 b = some (.lst (ws.map L2.V.str)) := k56.at (by simpa using ebd) b5
    have E6 := E5.mono (k56.hid (S := d :: S) fun z hz => by rw [List.mem_singleton.mp hz]; exact List.mem_cons_self ..) (Nat.le_refl _)
    have L6 : Live (d :: S) H6 := LS k6 (by rw [d6]; exact fun z => (nomatch z))
    -- named
    have h36 := Dp.mono (fS k6) h3
    refine ⟨_, rfl, _, rfl, ?_⟩
    refine cat_ans (S := d :: S) L6 E6.dp h36 (by rw [List.length_map, List.length_map]; have := E6.few; omega) fun ca cx nca hcx cda cdp => ?_
    rw [← List.map_append] at cda
    have hedge : ∀ e ∈ es ++ st, EdgeOk ws.length e := fun e he => (List.mem_append.mp he).elim (E6.ok e) (hst e)
    have hnum : (es ++ st).length ≤ 300 := by rw [List.length_append]; have := E6.few; omega
    have k7 := k6.new (o := .lst cx) nca
    have k67 : Kp [] H6 (upd H6 ca (.lst cx)) := kp_new nca
    have c7 : (upd H6 ca (.lst cx)) ca = some (.lst cx) := upd_same
    have b7 := k67.same _ _ b6
    have d7 := k67.same _ _ d6
    refine ⟨ca, rfl, ⟨cx, .inl (.inl upd_same)⟩, fun D hD => ?_⟩
    generalize (upd H6 ca (.lst cx)) = H7 at k7 k67 c7 b7 d7 hD ⊢
    generalize es ++ st = el at cda hedge hnum
    refine lc_it (walkD cda) (fun i H' => ∃ rows : List (Addr × (Str × Str)), Kp [] H7 H' ∧ H' D = some (.lst (rows.map fun r => .ref r.1)) ∧ rows.length = i ∧ rows.map (·.2) = (el.take i).map (tieOf ws) ∧ ∀ r ∈ rows, r.1 ≠ D ∧ H' r.1 = some (.tup [.str r.2.1, .str r.2.2]))
      ⟨[], kp_new hD, upd_same, rfl, rfl, by simp⟩ (fun i H' _ ⟨_, kp, _⟩ => .inl (.inl (kp.same _ _ c7))) ?_ ?_
    · rintro i x Ha Hb hi ⟨rows, kp, hrD, hrl, hre, hro⟩ ⟨rfl, y⟩
      have hg := List.getElem?_eq_getElem hi
      have sm : Same (hid (d :: S) H6) Hb := hid_le.trans (k67.same.trans kp.same)
      obtain ⟨q, rfl, hqt⟩ := dp_pair (y _ hg)
      have hqt' := Same.tup sm hqt
      have hem := hedge _ (List.getElem_mem hi)
      generalize el[i] = e at hg hqt' hem
      obtain ⟨z0, z1, z2⟩ := hem
      have bs : SqL K Hb b (ws.map L2.V.str) := .inl (.inl (kp.same _ _ b7))
      obtain ⟨j1, hj1, e1, a1⟩ := word_at bs z0 (by omega)
      obtain ⟨j2, hj2, e2', a2⟩ := word_at bs (i := e.2) (by omega) z2
      have et : tieOf ws e = (sMin ws[j1] ws[j2], sMax ws[j1] ws[j2]) := by
        unfold tieOf
        rw [e1, e2', Int.toNat_natCast, Int.toNat_natCast, List.getD_eq_getElem?_getD, List.getD_eq_getElem?_getD, List.getElem?_eq_getElem hj1, List.getElem?_eq_getElem hj2]
        rfl
      refine ⟨q, _, rfl, hqt', rfl, _, _, rfl, _, _, rfl, rfl, rfl, _, rfl, _, rfl, b, _, _, _, rfl, rfl, bs, a1, _, rfl, _, rfl, b, _, _, _, rfl, rfl, bs, a2, _, _, rfl, _, rfl, _, rfl, b, _, _, _, rfl, rfl, bs, a1, _, rfl, _, rfl, b, _, _, _, rfl, rfl, bs, a2, _, _, rfl, two, fun T nT => ?_⟩
      have eDT : D ≠ T := ne_of_none hrD nT
      refine ⟨_, by rw [upd_ne eDT]; exact hrD, by rw [List.length_map, sizeLine_eq]; omega, rows ++ [(T, tieOf ws e)], (kp.put (kp.free nT)).put hD, by rw [upd_same, List.map_append]; rfl, by rw [List.length_append, hrl]; rfl, by rw [List.map_append, hre, take_snoc' hg, List.map_append]; rfl, fun r hr => ?_⟩
      rcases List.mem_append.mp hr with hr | hr
      · obtain ⟨r1, r2⟩ := hro r hr
        exact ⟨r1, by rw [upd_ne r1, upd_ne (ne_of_none r2 nT)]; exact r2⟩
      · rw [List.mem_singleton.mp hr]
        refine ⟨eDT.symm, ?_⟩
        show (upd _ _ _) T = _
        rw [upd_ne eDT.symm, upd_same, et]
    rintro H8 ⟨rows, k78, hrD, hrl, hre, hro⟩
    rw [List.take_length] at hre
    have k8 := k7.trans k78
    have b8 := k78.same _ _ b7
    have d8 := k78.same _ _ d7
    -- bulbs
    refine ⟨_, rfl, ?_⟩
    refine sort_words (.inl (.inl b8)) fun sb nsb => ?_
    have k89 : Kp [] H8 (upd H8 sb (.lst ((srt PyData.str ws).map L2.V.str))) := kp_new nsb
    have sb9 : (upd H8 sb (.lst ((srt PyData.str ws).map L2.V.str))) sb = some (.lst ((srt PyData.str ws).map L2.V.str)) := upd_same
    have nsb0 := k8.free nsb
    generalize (upd H8 sb (.lst ((srt PyData.str ws).map L2.V.str))) = H9 at k89 sb9 ⊢
    have k9 := k8.trans k89
    have D9 := k89.same _ _ hrD
    have hro9 : ∀ r ∈ rows, H9 r.1 = some (.tup [.str r.2.1, .str r.2.2]) := fun r hr => k89.same _ _ (hro r hr).2
    -- the ties
    refine ⟨_, rfl, _, rfl, D, rfl, ⟨_, .inl (.inl D9)⟩, fun D2 hD2 => ?_⟩
    refine lc_it walk_list (fun i H' => ∃ ps : List Addr, Kp [] H9 H' ∧ H' D2 = some (.lst (ps.map L2.V.ref)) ∧ ps.length = i ∧ Paired (fun p (r : Addr × (Str × Str)) => p ≠ D2 ∧ H' p = some (.tup [.ref r.1, .bl true])) ps (rows.take i))
      ⟨[], kp_new hD2, upd_same, rfl, .nil⟩ (fun i H' _ ⟨_, kp, _⟩ => .inl (.inl (kp.same _ _ D9))) ?_ ?_
    · rintro i x Ha Hb hi ⟨ps, kp, hp2, hpl, hpp⟩ ⟨rfl, hx⟩
      obtain ⟨r, hr, rfl⟩ := get_map hx
      refine ⟨rfl, _, rfl, two, fun T nT => ?_⟩
      have eDT : D2 ≠ T := ne_of_none hp2 nT
      refine ⟨_, by rw [upd_ne eDT]; exact hp2, by rw [List.length_map, sizeLine_eq]; rw [List.length_map] at hi; omega, ps ++ [T], (kp.put (kp.free nT)).put hD2, by rw [upd_same, List.map_append]; rfl, by rw [List.length_append, hpl]; rfl, ?_⟩
      rw [take_snoc' hr]
      refine Paired.snoc (paired_mono (fun p r h => ⟨h.1, by rw [upd_ne h.1, upd_ne (ne_of_none h.2 nT)]; exact h.2⟩) hpp) ⟨eDT.symm, by rw [upd_ne eDT.symm, upd_same]⟩
    rintro Ha ⟨ps, kpa, hp2, hpl, hpp⟩
    rw [List.length_map, List.take_length] at hpp
    have kaa := k9.trans kpa
    refine ⟨D2, ps, rows.map fun r => ([Sum.inr r.2.1, Sum.inr r.2.2], r.1, .bl true), rfl, .inl (.inl hp2), ?_, fun dd ndd => ?_⟩
    · refine paired_map (paired_mono (F := fun p (r : Addr × (Str × Str)) => r ∈ rows ∧ (p ≠ D2 ∧ Ha p = some (.tup [.ref r.1, .bl true]))) (fun p r h => ?_) ?_)
      · obtain ⟨h1, _, h2⟩ := h
        exact ⟨.inl (.inl h2), kpa.same _ _ (hro9 r h1)⟩
      · have q : ∀ {l : List Addr} {m : List (Addr × (Str × Str))}, Paired (fun p (r : Addr × (Str × Str)) => p ≠ D2 ∧ Ha p = some (.tup [.ref r.1, .bl true])) l m → (∀ r ∈ m, r ∈ rows) → Paired (fun p (r : Addr × (Str × Str)) => r ∈ rows ∧ (p ≠ D2 ∧ Ha p = some (.tup [.ref r.1, .bl true]))) l m := by
          intro l m h
          induction h with
          | nil => exact fun _ => .nil
          | cons x y ih => exact fun hm => .cons ⟨hm _ (List.mem_cons_self ..), x⟩ (ih fun r hr => hm r (List.mem_cons_of_mem _ hr))
        exact q hpp fun r hr => hr
    obtain ⟨mk1, mk2⟩ := mergeT_keys (rows.map fun r => (([Sum.inr r.2.1, Sum.inr r.2.2], r.1, .bl true) : List Key × Addr × L2.V)) [] List.nodup_nil
    have kin : ∀ x, x ∈ (mergeT [] (rows.map fun r => (([Sum.inr r.2.1, Sum.inr r.2.2], r.1, .bl true) : List Key × Addr × L2.V))).map (·.1) → ∃ e ∈ el, x = [Sum.inr (tieOf ws e).1, Sum.inr (tieOf ws e).2] := fun x hx => by
      rcases (mk2 x).mp hx with z | z
      · simp at z
      · rw [List.map_map] at z
        obtain ⟨r, hr, rfl⟩ := List.mem_map.mp z
        have hm : r.2 ∈ rows.map (·.2) := List.mem_map.mpr ⟨r, hr, rfl⟩
        rw [hre] at hm
        obtain ⟨e, he, ee⟩ := List.mem_map.mp hm
        exact ⟨e, he, by show [Sum.inr r.2.1, Sum.inr r.2.2] = _; rw [ee]⟩
    obtain ⟨ts, ets⟩ := keys_ties (kks := (mergeT [] (rows.map fun r => (([Sum.inr r.2.1, Sum.inr r.2.2], r.1, .bl true) : List Key × Addr × L2.V))).map (·.1)) fun x hx => by
      obtain ⟨e, _, rfl⟩ := kin x hx
      exact ⟨tieOf ws e, rfl⟩
    have kb := kaa.new (o := .dT (mergeT [] (rows.map fun r => (([Sum.inr r.2.1, Sum.inr r.2.2], r.1, .bl true) : List Key × Addr × L2.V)))) ndd
    have ddB : (upd Ha dd (.dT (mergeT [] (rows.map fun r => (([Sum.inr r.2.1, Sum.inr r.2.2], r.1, .bl true) : List Key × Addr × L2.V))))) dd = some (.dT (mergeT [] (rows.map fun r => (([Sum.inr r.2.1, Sum.inr r.2.2], r.1, .bl true) : List Key × Addr × L2.V)))) := upd_same
    have sbB : (upd Ha dd (.dT (mergeT [] (rows.map fun r => (([Sum.inr r.2.1, Sum.inr r.2.2], r.1, .bl true) : List Key × Addr × L2.V))))) sb = some (.lst ((srt PyData.str ws).map L2.V.str)) := (kpa.new ndd).same _ _ sb9
    have dB := (k89.trans (kpa.new (o := .dT (mergeT [] (rows.map fun r => (([Sum.inr r.2.1, Sum.inr r.2.2], r.1, .bl true) : List Key × Addr × L2.V)))) ndd)).same _ _ d8
    have hts : ∀ t ∈ ts, Lt t.1 t.2 ∧ t.1 ∈ ws ∧ t.2 ∈ ws := fun t ht => by
      have hm : ([Sum.inr t.1, Sum.inr t.2] : List Key) ∈ (mergeT [] (rows.map fun r => (([Sum.inr r.2.1, Sum.inr r.2.2], r.1, .bl true) : List Key × Addr × L2.V))).map (·.1) := by
        rw [ets]
        exact List.mem_map.mpr ⟨t, ht, rfl⟩
      obtain ⟨e, he, ee⟩ := kin _ hm
      have q := tieOf_ok hnd (hedge e he)
      simp only [List.cons.injEq, Sum.inr.injEq, and_true] at ee
      rw [ee.1, ee.2]
      exact q
    have tnd : ts.Nodup := by
      rw [ets] at mk1
      have q : (ts.map fun t => ([Sum.inr t.1, Sum.inr t.2] : List Key)).Pairwise (· ≠ ·) := mk1
      rw [List.pairwise_map] at q
      exact q.imp fun h e => h (by rw [e])
    generalize (mergeT [] (rows.map fun r => (([Sum.inr r.2.1, Sum.inr r.2.2], r.1, .bl true) : List Key × Addr × L2.V))) = kvs at *
    generalize (upd Ha dd (.dT kvs)) = Hb at *
    refine ⟨dd, kvs, ts.map fun t => [t.1, t.2], rfl, .inl ddB, by rw [ets, List.map_map]; rfl, fun sp bs nsp hbs hb => ?_⟩
    have hNTb := hNT.kp kb
    have sortd := sorted_ties (K := K) hNTb hbs hb
    have kc := kb.new (o := .lst ((bs.mergeSort (leD encT)).map fun b => L2.V.ref b.1)) nsp
    have spC : (upd Hb sp (.lst ((bs.mergeSort (leD encT)).map fun b => L2.V.ref b.1))) sp = some (.lst ((bs.mergeSort (leD encT)).map fun b => L2.V.ref b.1)) := upd_same
    have kbc : Kp [] Hb (upd Hb sp (.lst ((bs.mergeSort (leD encT)).map fun b => L2.V.ref b.1))) := kp_new nsp
    have tieD : Dp K (hid S (upd Hb sp (.lst ((bs.mergeSort (leD encT)).map fun b => L2.V.ref b.1)))) (.ref sp) (eT (srt eT2 ts)) := .lst (.inl (.inl (hid_at upd_same (not_mem_of (kb.live hS) nsp)))) (DpAll.mono kbc.hid0 sortd)
    have sbC := kbc.same _ _ sbB
    have dC := kbc.same _ _ dB
    generalize (upd Hb sp (.lst ((bs.mergeSort (leD encT)).map fun b => L2.V.ref b.1))) = Hc at *
    -- the wishes
    have snd : (srt PyData.str ws).Nodup := srt_nodup hnd
    have sl : (srt PyData.str ws).length = ws.length := srt_len _
    refine ⟨_, rfl, sb, rfl, ⟨_, .inl (.inl sbC)⟩, fun D3 hD3 => ?_⟩
    refine lcS (K := K) (items := srt PyData.str ws) (S := S) walkW (fun l => .tuple [.str l, .str (wish l)]) hD3 (kc.live hS) (by omega) (fun H' kp => .inl (.inl (kp.same _ _ sbC))) ?_ ?_
    · rintro i x x1 He Hf Yes hi kp hL ⟨rfl, y⟩ yes
      obtain rfl := y x hi
      have mi := srt_mem.mp (List.mem_of_getElem? hi)
      have g : DGet Hf d (.str x) (some (.str (wish x))) := by
        have q := DGet.k (k := Sum.inr x) (kp.same _ _ dC)
        rw [valV_fk mi] at q
        exact q
      exact ⟨rfl, _, rfl, _, rfl, _, rfl, d, _, rfl, g, two, fun T nT => yes _ _ (kp_new nT) (.tup (.inl (.inl (hid_at upd_same (not_mem_of hL nT)))) (.cons (.str _) (.cons (.str _) .nil)))⟩
    intro He ys kpe hLe hle hlle dae dpe
    obtain ⟨ps2, eps, hps2⟩ := da_kv dae
    refine ⟨D3, ps2, _, rfl, .inl (.inl (by rw [hle, eps])), paired_mono (fun p kv h => Same.tup hid_le h) hps2, fun wd nwd => ?_⟩
    rw [mergeK_fk snd]
    refine ⟨by show 3 ≤ sizeLine; decide, fun rl nrl => ?_⟩
    have kf := (kc.trans kpe).new (o := .dK (fk (srt PyData.str ws) fun l => .str (wish l))) nwd
    have ew : wd ≠ rl := ne_of_none upd_same nrl
    have nrl0 := kf.free nrl
    have kcf : Kp [] Hc (upd (upd He wd (.dK (fk (srt PyData.str ws) fun l => .str (wish l)))) rl (.lst [.ref sb, .ref sp, .ref wd])) := (kpe.new nwd).new nrl
    have g1 : hid S (upd (upd He wd (.dK (fk (srt PyData.str ws) fun l => .str (wish l)))) rl (.lst [.ref sb, .ref sp, .ref wd])) wd = some (.dK (fk (srt PyData.str ws) fun l => .str (wish l))) := hid_at (by rw [upd_ne ew, upd_same]) (not_mem_of hLe nwd)
    refine k _ _ ⟨srt PyData.str ws, srt eT2 ts, wish⟩ (kf.new nrl) ⟨rl, sb, sp, wd, rfl, .inl (.inl (hid_at upd_same (not_mem_of hS nrl0))), .inl (.inl (hid_at (kcf.same _ _ sbC) (not_mem_of hS nsb0))), Dp.mono kcf.hid0 tieD, g1⟩ ?_
    have ht2 : ∀ t ∈ srt eT2 ts, Lt t.1 t.2 ∧ t.1 ∈ srt PyData.str ws ∧ t.2 ∈ srt PyData.str ws := fun t ht => by
      obtain ⟨q1, q2, q3⟩ := hts t (srt_mem.mp ht)
      exact ⟨q1, srt_mem.mpr q2, srt_mem.mpr q3⟩
    exact ⟨srt_lt hnd, fun l hl => hww l (srt_mem.mp hl), by show 0 < (srt PyData.str ws).length; omega, by show (srt PyData.str ws).length ≤ 8; omega, srt_pw ts, srt_nodup tnd, ht2, ties_few (by show 0 < (srt PyData.str ws).length; omega) (by show (srt PyData.str ws).length ≤ 8; omega) (srt_nodup tnd) ht2, fun l hl => ow l (srt_mem.mp hl)⟩
end
end K41
namespace K41
open PySem PySem.Spec PyProof.Rows L2 PySem.W
/-- a statement, joined behind it -/
theorem seq_join {t u : TS} {D : Ends} {σ : L2.St} {H : Hp} (Pq : L2.St → Hp → Prop) (hb : ∀ N : L2.St → Hp → Prop, (∀ σ' H', Pq σ' H' → N σ' H') → t { D with nx := N } σ H) (h : ∀ σ' H', Pq σ' H' → u D σ' H') : tSeq t u D σ H := hb (u D) h
theorem seq_joinG {t u : TS} {D : Ends} {σ : L2.St} {H : Hp} {i : Nat} {x : V} (Pq : L2.St → Hp → Prop) (hb : ∀ N : L2.St → Hp → Prop, (∀ σ' H', Pq σ' H' → N σ' H') → t { D with nx := N } (σ.set i (some x)) H) (h : ∀ σ' H', Pq σ' H' → u D σ' H') : gName i x σ H (tSeq t u D) := hb (u D) h
section
variable {P : Program} {w : World} {K : PySem.W.Frag} {mg : Str → Option Value} {base : Heap} {C : Addr}
def spScene (K : PySem.W.Frag) : Sp := fun vs H Q _ => ∃ (p : Addr) (n : Int) (m : Nat), vs = [.ref p, .int n] ∧ 1 ≤ n ∧ n ≤ 6 ∧ Purse H p m ∧ m + 1000 ≤ 1000000000 ∧
  ∀ v H' N, Kp [p] H H' → Purse H' p (m + 1000) → LNet K (hid [p] H') v N → Good N → Q v H'
theorem purse_live {H : Hp} {p : Addr} {m : Nat} (h : Purse H p m) : Live [p] H := h.noTup.live
theorem sum_lens (qs : List (List (Int × Int) × List Str)) : (qs.map fun q => (q.2.length : Int)).sum = (bsum qs : Int) := by
  unfold bsum
  induction qs with
  | nil => rfl
  | cons q qs ih => simp only [List.map_cons, List.sum_cons, ih, Int.natCast_add]
theorem pick4 {j : Int} (h0 : 0 ≤ j) (h1 : j < 4) : ∃ r : Int, atI [L2.V.int 0, .int 0, .int 1, .int 2] j = some (.int r) ∧ 0 ≤ r ∧ r ≤ 2 := by
  have hj : j = 0 ∨ j = 1 ∨ j = 2 ∨ j = 3 := by omega
  rcases hj with rfl | rfl | rfl | rfl
  · exact ⟨0, at0, by decide, by decide⟩
  · exact ⟨0, at1, by decide, by decide⟩
  · exact ⟨1, at2, by decide, by decide⟩
  · exact ⟨2, atI_nat (j := 3) rfl, by decide, by decide⟩
theorem c_l_scene (Y : Env K mg C) : Def P w K mg base (Str.ofString "_law_scene") 6 ["_law_purse_here", "_law_most"] (spScene K) := by
  refine def_mk Y.t_l_scene sc_l_scene bb_l_scene (fun vs H Q E h => ?_) (fun f cdv A outer s H vs Q E hr h => ?_)
  · obtain ⟨p, n, m, rfl, _⟩ := h
    rfl
  · obtain ⟨p, n, m, rfl, hn1, hn6, hP, hm, k⟩ := h
    have pm : p ∈ [p] := List.mem_singleton.mpr rfl
    have pinp : ∀ b ∈ [p], b ∈ [p] := fun b hb => hb
    refine ⟨_, (pss_cons (ps_set (i := 2) sc_l_scene.nd rfl (Or.inl rfl) (pe_lst (pa_cons (pe_def (c_l_part Y) (hr.mono (by decide)) (pa_cons (pv 0) (pa_cons (pe_op op_sub (pv 1) (pe_def (c_l_draw Y) (hr.mono (by decide)) (pa_cons (pv 0) (pa_cons (pe_callB (call_max2 rfl) (by rfl) Y.n_max (by decide +kernel) (pa_cons pe_int (pa_cons (pe_op op_sub (pv 1) pe_int) pa_nil))) pa_nil)))) pa_nil))) pa_nil)))
    (pss_cons (ps_set (i := 3) sc_l_scene.nd rfl (Or.inl rfl) (pe_op op_sub (pv 1) (pe_ix (K_ixL (K := K) rfl) (pe_ix (K_ixL (K := K) rfl) (pv 2) pe_int (fun _ _ => rfl)) pe_int (fun _ _ => rfl))))
    (pss_cons (ps_if (PW.pt (pw_and (pt_cmpR op_gt (pv 3) pe_int (nomark _)) (pw_and1 (pt_cmpR op_eq (pe_def (c_l_draw Y) (hr.mono (by decide)) (pa_cons (pv 0) (pa_cons pe_int pa_nil))) pe_int (nomark _))))) (pss_one (ps_expr (K_bm (K := K) rfl PySem.F.plainAttrs_list PySem.F.slot_list_append PySem.F.type_list_append mt_append (pv 2) (pa_cons (pe_def (c_l_part Y) (hr.mono (by decide)) (pa_cons (pv 0) (pa_cons (pe_op op_add pe_int (pe_def (c_l_draw Y) (hr.mono (by decide)) (pa_cons (pv 0) (pa_cons (pv 3) pa_nil)))) pa_nil))) pa_nil)))) pss_nil)
    (pss_cons (ps_par (i := 6) (j := 7) rfl sc_l_scene.nd rfl rfl (by decide) rfl rfl (pa_cons (pe_callB (K_sum (K := K) rfl rfl) (by rfl) Y.n_sum (by decide +kernel) (pa_cons (pe_lc (own := [("_law_part_here", 8)]) rfl sc_l_scene.nd (K_pil (K := K) rfl (pv 2)) (blkOk_by (own := [("_law_part_here", 8)]) (N := ["_law_purse_here", "_law_most", "_law_parts", "_law_rest", "_law_stuck", "_law_late", "_law_free_here", "_law_more", "_law_part_here", "_law_at"]) (sc := defScope s_l_scene) (by decide +kernel)) (fun _ _ _ _ _ => (pg_name (i := 8) sc_l_scene.nd rfl (Or.inl rfl))) (fun _ _ _ _ _ => pts_nil) (fun _ _ _ _ _ => (pe_ix (K_ixL (K := K) rfl) (pv 8) pe_int (fun _ _ => rfl)))) pa_nil)) (pa_cons (pe_ix (K_ixL (K := K) rfl) (pe_lst (pa_cons pe_int (pa_cons pe_int (pa_cons pe_int (pa_cons pe_int pa_nil))))) (pe_def (c_l_draw Y) (hr.mono (by decide)) (pa_cons (pv 0) (pa_cons pe_int pa_nil))) (fun _ _ => rfl)) pa_nil)) rfl)
    (pss_cons (ps_set (i := 4) sc_l_scene.nd rfl (Or.inl rfl) (pe_lst pa_nil))
    (pss_cons (ps_for PassesOwn.never rfl (pi_range2 rfl Y.n_range (pa_cons (pv 6) (pa_cons (pe_op op_add (pv 6) (pv 7)) pa_nil))) (pg_name (i := 5) sc_l_scene.nd rfl (Or.inr rfl))
    (pss_one (ps_set (i := 4) sc_l_scene.nd rfl (Or.inl rfl) (pe_op (K_cat (K := K) rfl) (pv 4) (pe_lc (own := [("_law_at", 9)]) rfl sc_l_scene.nd (pi_range1 rfl Y.n_range (pa_cons (pv 5) pa_nil)) (blkOk_by (own := [("_law_at", 9)]) (N := ["_law_purse_here", "_law_most", "_law_parts", "_law_rest", "_law_stuck", "_law_late", "_law_free_here", "_law_more", "_law_part_here", "_law_at"]) (sc := defScope s_l_scene) (by decide +kernel)) (fun _ _ _ _ _ => (pg_name (i := 9) sc_l_scene.nd rfl (Or.inl rfl))) (fun _ _ _ _ _ => (pts_one (pt_cmpR op_eq (pe_def (c_l_draw Y) (hr.mono (by decide)) (pa_cons (pv 0) (pa_cons pe_int pa_nil))) pe_int (nomark _)))) (fun _ _ _ _ _ => (pe_tup (pa_cons (pv 9) (pa_cons (pv 5) pa_nil)))))))))
    (pss_one (ps_ret (pe_def (c_l_net_of Y) (hr.mono (by decide)) (pa_cons (pe_def (c_l_words Y) (hr.mono (by decide)) (pa_cons (pv 0) (pa_cons (pe_op op_add (pv 6) (pv 7)) pa_nil))) (pa_cons (pv 2) (pa_cons (pv 4) pa_nil)))))))))))), ?_⟩
    refine ⟨_, rfl, _, rfl, _, rfl, _, rfl, _, _, rfl, rfl, _, _, rfl, ?_⟩
    refine ⟨[p], p, m, _, [.int (if n - 2 > 1 then n - 2 else 1)], rfl, purse_live hP, pm, hP, by omega, .cons (.int _) .nil, ⟨_, rfl, by split <;> omega, by split <;> omega⟩, fun v1 H1 d1 k1 hP1 hr1 hv1 => ?_⟩
    obtain ⟨r, rfl, hr0, hrn⟩ := draw_is hr1 hv1
    have ha : 1 ≤ n - r ∧ n - r ≤ n := by
      split at hrn <;> omega
    refine ⟨_, _, rfl, rfl, ?_⟩
    refine ⟨[p], p, m + 1, _, [.int (n - r)], rfl, purse_live hP1, pm, hP1, by omega, .cons (.int _) .nil, ⟨_, rfl, by omega, by omega⟩, fun v2 H2 d2 k2 hP2 ⟨n2, en2, hpd⟩ hv2 => ?_⟩
    have en : n - r = n2 := by
      have q := (List.cons.inj en2).1
      injection q
    subst en
    obtain ⟨q1, rfl, hq1, hqn⟩ := part_of hpd
    refine ⟨by show 1 ≤ sizeLine; decide, fun pl npl => ?_⟩
    have k12 := k1.trans k2
    have hpp : p ≠ pl := hP2.ne npl
    have kA : Kp [p] H (upd H2 pl (.lst [v2])) := k12.new npl
    have PA : Purse (upd H2 pl (.lst [v2])) p (m + 111) := hP2.upd hpp
    have plA : (upd H2 pl (.lst [v2])) pl = some (.lst [v2]) := upd_same
    have plS : pl ∉ [p] := fun z => hpp (List.mem_singleton.mp z).symm
    have vA : Dp K (hid [pl, p] (upd H2 pl (.lst [v2]))) v2 (ePt q1) := by
      rw [hid_in (List.mem_cons_self ..), hid_cons npl]
      exact hv2
    have npl0 : H pl = none := k12.free npl
    generalize (upd H2 pl (.lst [v2])) = HA at *
    -- rest
    have vA' := Dp.mono (hid_le) vA
    obtain ⟨qa, qx, rfl, hqa, hqx⟩ := dp_list vA'
    obtain ⟨x1, x2, x3, rfl, hx1, hx2, hx3⟩ := da3 hqx
    obtain rfl := dp_int hx1
    refine ⟨_, rfl, _, rfl, pl, _, _, _, rfl, rfl, .inl (.inl plA), at0, qa, _, _, _, rfl, rfl, hqa, at0, _, _, rfl, rfl, ?_⟩
    -- a second part
    dsimp only [gName]
    refine seq_join (fun σ' H' => σ' = [some (.ref p), some (.int n), some (.ref pl), some (.int (n - (q1.2.length : Int))), none, none, none, none, none, none] ∧ ∃ (xs : List L2.V) (qs : List (List (Int × Int) × List Str)), H' pl = some (.lst xs) ∧ DpAll K (hid [pl, p] H') xs (qs.map ePt) ∧ (∀ q ∈ qs, PartOk q) ∧ 1 ≤ bsum qs ∧ (bsum qs : Int) ≤ n ∧ qs.length ≤ 2 ∧ Kp [p] H H' ∧ Purse H' p (m + 300)) (fun Nn hN => ?_) ?_
    · have b1 : bsum [q1] = q1.2.length := by simp [bsum]
      have base : ∀ H', Kp [p] HA H' → Purse H' p (m + 300) → Nn [some (.ref p), some (.int n), some (.ref pl), some (.int (n - (q1.2.length : Int))), none, none, none, none, none, none] H' := fun H' kk PP =>
        hN _ _ ⟨rfl, [.ref qa], [q1], kk.at plS plA, .cons (Dp.mono (kk.hid fun b hb => List.mem_cons_of_mem _ hb) vA) .nil, fun q hq => by rw [List.mem_singleton.mp hq]; exact hq1, by omega, by omega, by show 1 ≤ 2; decide, kA.trans kk, PP⟩
      refine ⟨_, rfl, _, _, rfl, rfl, _, rfl, ?_⟩
      by_cases hrest : n - (q1.2.length : Int) > 0
      · refine if_yes (decide_eq_true hrest) ?_
        refine ⟨_, rfl, [p], p, _, _, [.int 3], rfl, purse_live PA, pm, PA, by omega, .cons (.int _) .nil, ⟨_, rfl, by decide, by decide⟩, fun v3 H3 d3 k3 hP3 hr3 hv3 => ?_⟩
        obtain ⟨j3, rfl, _, _⟩ := draw_is hr3 hv3
        refine ⟨rfl, _, rfl, ?_⟩
        generalize decide (L2.V.int j3 = L2.V.int 0) = bb
        cases bb with
        | false => exact base _ k3 (hP3.mono (by omega))
        | true =>
          have pl3 : H3 pl = some (.lst [.ref qa]) := k3.at plS plA
          refine ⟨_, rfl, .inl ⟨rfl, _, .inl (.inl pl3)⟩, _, rfl, _, rfl, _, rfl, [p], p, _, _, [.int (n - (q1.2.length : Int))], rfl, purse_live hP3, pm, hP3, by omega, .cons (.int _) .nil, ⟨_, rfl, by omega, by omega⟩, fun v4 H4 d4 k4 hP4 hr4 hv4 => ?_⟩
          obtain ⟨j4, rfl, h40, h41⟩ := draw_is hr4 hv4
          have pl4 : H4 pl = some (.lst [.ref qa]) := k4.at plS pl3
          have L4 : Live [pl, p] H4 := (purse_live hP4).cons pl4
          refine ⟨_, _, rfl, rfl, [pl, p], p, _, _, [.int (1 + j4)], rfl, L4, List.mem_cons_of_mem _ pm, hP4, by omega, .cons (.int _) .nil, ⟨_, rfl, by omega, by omega⟩, fun v5 H5 d5 k5 hP5 ⟨n5, en5, hpd5⟩ hv5 => ?_⟩
          have e5 : 1 + j4 = n5 := by
            have q := (List.cons.inj en5).1
            injection q
          subst e5
          obtain ⟨q2, rfl, hq2, hqn2⟩ := part_of hpd5
          have pl5 : H5 pl = some (.lst [.ref qa]) := k5.at plS pl4
          have b2 : bsum [q1, q2] = q1.2.length + q2.2.length := by simp [bsum]
          have k345 := (k3.trans k4).trans k5
          have v5' : Dp K (hid [pl, p] H5) (.ref qa) (ePt q1) := Dp.mono (k345.hid fun b hb => List.mem_cons_of_mem _ hb) vA
          refine ⟨pl, _, v5, rfl, rfl, pl5, by show 1 < sizeLine; decide, ?_⟩
          refine hN _ _ ⟨rfl, [.ref qa, v5], [q1, q2], upd_same, ?_, fun q hq => ?_, by omega, by omega, Nat.le_refl 2, (kA.trans k345).put npl0, (hP5.upd hpp).mono (by omega)⟩
          · rw [hid_in (List.mem_cons_self ..)]
            exact .cons v5' (.cons hv5 .nil)
          · simp only [List.mem_cons, List.not_mem_nil, or_false] at hq
            rcases hq with rfl | rfl
            · exact hq1
            · exact hq2
      · refine if_no (decide_eq_false hrest) ?_
        exact base _ .refl (PA.mono (by omega))
    rintro σ' H3 ⟨rfl, xs, qs, hpl, hda, hqs, hb1, hbn, hq2, k3, P3⟩
    have dpl : Dp K (hid [p] H3) (.ref pl) (.list (qs.map ePt)) := .lst (.inl (.inl (hid_at hpl plS))) (DpAll.mono hid_tail hda)
    have da3' : DpAll K (hid [p] H3) xs (qs.map ePt) := DpAll.mono hid_tail hda
    clear vA vA' hda plA
    -- free_here, more
    refine ⟨_, rfl, pl, rfl, ⟨_, .inl (.inl hpl)⟩, fun D hD => ?_⟩
    refine lcS (K := K) (S := [p]) (walkD da3') (fun q => .int (q.2.length : Int)) hD (purse_live P3) (by omega) (fun H' kp => .inl (.inl (kp.same _ _ hpl))) ?_ ?_
    · rintro i q x1 Ha Hb Yes hi kp hL ⟨rfl, y⟩ yes
      obtain ⟨pa, px, rfl, hp1, hp2⟩ := dp_list (Dp.mono (hid_le.trans kp.same) (y q hi))
      obtain ⟨y1, y2, y3, rfl, hy1, hy2, hy3⟩ := da3 hp2
      obtain rfl := dp_int hy1
      exact ⟨rfl, _, rfl, pa, _, _, _, rfl, rfl, hp1, at0, yes _ _ .refl (.int _)⟩
    intro H4 ys k4 hL4 hl4 hle4 da4 dp4
    have e4 : (qs.map fun q => PyData.int (q.2.length : Int)) = (qs.map fun q => (q.2.length : Int)).map .int := by rw [List.map_map]; rfl
    rw [e4] at da4
    rw [da_ints da4] at hl4
    refine ⟨D, _, rfl, .inl (.inl hl4), ?_⟩
    rw [sum_lens]
    have P4 := P3.kp k4 (by simp)
    refine ⟨by show 4 ≤ sizeLine; decide, fun ol nol => ?_⟩
    have P5 := P4.upd (o := .lst [.int 0, .int 0, .int 1, .int 2]) (P4.ne nol)
    refine ⟨_, rfl, [p], p, _, _, [.int 4], rfl, purse_live P5, pm, P5, by omega, .cons (.int _) .nil, ⟨_, rfl, by decide, by decide⟩, fun v5 H5 d5 k5 hP5 hr5 hv5 => ?_⟩
    obtain ⟨j5, rfl, h50, h51⟩ := draw_is hr5 hv5
    obtain ⟨mo, hmo, mo0, mo2⟩ := pick4 h50 h51
    have olS : ol ∉ [p] := fun z => P4.ne nol (List.mem_singleton.mp z).symm
    refine ⟨ol, _, _, _, rfl, rfl, .inl (.inl (k5.at olS upd_same)), hmo, _, _, rfl, ?_⟩
    have k35 : Kp [p] H3 H5 := ((k4.nil).new nol).trans k5
    have k05 := k3.trans k35
    have dpl5 := Dp.mono (k35.hid pinp) dpl
    -- stuck
    refine ⟨Nat.zero_le _, fun s0 ns0 => ?_⟩
    have s0p := hP5.ne ns0
    have k6 := k05.new (o := .lst []) ns0
    have P6 : Purse (upd H5 s0 (.lst [])) p (m + 301) := hP5.upd s0p
    have dpl6 := Dp.mono ((kp_new (T := []) (o := .lst []) ns0).hid0 (S := [p])) dpl5
    have E6 : EdgesAt K (hid [p] (upd H5 s0 (.lst []))) (.ref s0) ((bsum qs : Int) + mo) 0 [] := ⟨.lst (.inl (.inl (hid_at upd_same (fun z => s0p (List.mem_singleton.mp z).symm)))) .nil, by simp, Nat.le_refl _⟩
    generalize (upd H5 s0 (.lst [])) = H6 at k6 P6 dpl6 E6 ⊢
    refine ⟨_, rfl, _, rfl, _, rfl, _, _, rfl, rfl, (bsum qs : Int), (bsum qs : Int) + mo, rfl, by omega, ?_⟩
    have htn : ((bsum qs : Int) + mo - (bsum qs : Int)).toNat ≤ 2 := by omega
    refine for_it (n := ((bsum qs : Int) + mo - (bsum qs : Int)).toNat) walk_range (fun i σ H' => ∃ (sv : L2.V) (es : List (Int × Int)) (o5 : Option L2.V), σ = [some (.ref p), some (.int n), some (.ref pl), some (.int (n - (q1.2.length : Int))), some sv, o5, some (.int (bsum qs : Int)), some (.int mo), none, none] ∧ Kp [p] H6 H' ∧ Purse H' p (m + 301 + 10 * i) ∧ EdgesAt K (hid [p] H') sv ((bsum qs : Int) + mo) (10 * i) es)
      ⟨_, [], _, rfl, .refl, P6, E6⟩ (fun _ _ _ _ _ => trivial) ?_ ?_
    · rintro i x σ Ha Hb hi ⟨sv, es, o5, rfl, ka, Pa, Ea⟩ ⟨rfl, rfl⟩
      refine ⟨_, rfl, _, rfl, (bsum qs : Int) + (i : Int), rfl, by omega, by omega, fun D2 hD2 => ?_⟩
      have hpD2 : p ≠ D2 := Pa.ne hD2
      refine lcR (K := K) (S := [p]) (T := [p]) (n := ((bsum qs : Int) + (i : Int)).toNat) walk_range (fun j H' => Purse H' p (m + 301 + 10 * i + j)) (fun j ds => ∃ rs : List (Int × Int), ds = rs.map eP2 ∧ rs.length ≤ j ∧ ∀ e ∈ rs, EdgeOk ((bsum qs : Int) + mo) e) hD2 pinp (purse_live Pa) (by omega) (fun _ _ => trivial) ⟨[], rfl, Nat.le_refl _, by simp⟩ Pa (fun i H' o h => h.upd hpD2) ?_ ?_
      · rintro j x Hc Hd ds Yes No hj kp hL hPj ⟨rs, rfl, hrl, hro⟩ ⟨rfl, rfl⟩ yes no
        refine ⟨rfl, _, rfl, D2 :: [p], p, _, _, [.int 3], rfl, hL, List.mem_cons_of_mem _ pm, hPj, by omega, .cons (.int _) .nil, ⟨_, rfl, by decide, by decide⟩, fun v7 H7 d7 k7 hP7 hr7 hv7 => ?_⟩
        obtain ⟨j7, rfl, _, _⟩ := draw_is hr7 hv7
        refine ⟨rfl, _, rfl, ?_⟩
        generalize decide (L2.V.int j7 = L2.V.int 0) = bb
        cases bb with
        | false => exact no _ k7 hP7 ⟨rs, rfl, by omega, hro⟩
        | true =>
          refine ⟨_, rfl, _, rfl, by show 2 ≤ sizeLine; decide, fun T nT => ?_⟩
          refine yes _ _ (eP2 (0 + (j : Int), (bsum qs : Int) + (i : Int))) (k7.new nT) (hP7.upd (hP7.ne nT)) (pair_dp (.inl (.inl (hid_at upd_same (not_mem_of (k7.live hL) nT))))) ⟨rs ++ [(0 + (j : Int), (bsum qs : Int) + (i : Int))], by rw [List.map_append]; rfl, by rw [List.length_append, List.length_singleton]; omega, fun e he => ?_⟩
          rcases List.mem_append.mp he with he | he
          · exact hro e he
          · rw [List.mem_singleton.mp he]
            exact ⟨by show 0 ≤ 0 + (j : Int); omega, by show 0 + (j : Int) < (bsum qs : Int) + (i : Int); omega, by show (bsum qs : Int) + (i : Int) < (bsum qs : Int) + mo; omega⟩
      rintro H8 ys8 ds8 k8 hL8 hP8 ⟨rs, rfl, hrl, hro⟩ hl8 hle8 da8 dp8
      have E8 := Ea.mono (k8.hid (S := [p]) pinp) (Nat.le_refl _)
      refine cat_ans hL8 E8.dp dp8 (by rw [List.length_map, List.length_map]; have := E8.few; omega) fun q xs nq hxs _ dq => ?_
      rw [eP_app] at dq
      refine ⟨_, es ++ rs, _, rfl, (ka.trans k8).new nq, (hP8.upd (hP8.ne nq)).mono (by omega), dq, fun e he => ?_, by rw [List.length_append]; have := E8.few; omega⟩
      rcases List.mem_append.mp he with he | he
      · exact E8.ok e he
      · exact hro e he
    rintro σ H7 ⟨sv, es, o5, rfl, k7, P7, E7⟩
    have dpl7 := Dp.mono (k7.hid (S := [p]) pinp) dpl6
    -- the words, the net
    refine ⟨_, rfl, _, rfl, _, rfl, _, _, rfl, rfl, [p], p, _, _, [.int ((bsum qs : Int) + mo)], rfl, purse_live P7, pm, P7, by omega, .cons (.int _) .nil, ⟨_, rfl, by omega, by omega⟩, fun v8 H8 d8 k8 hP8 ⟨n8, ws, e8, e8', wn, wl, ww⟩ hv8 => ?_⟩
    subst e8'
    have en8 : (bsum qs : Int) + mo = n8 := by
      have q := (List.cons.inj e8).1
      injection q
    subst en8
    have m78 := k8.hid (S := [p]) pinp
    refine ⟨_, rfl, _, rfl, [p], v8, .ref pl, sv, ws, qs, es, rfl, hP8.noTup, hv8, Dp.mono m78 dpl7, Dp.mono m78 E7.dp, wn, ww, by omega, by omega, hqs, by omega, hq2, fun e he => ?_, by have := E7.few; omega, fun v9 H9 N k9 hN9 g9 => ?_⟩
    · rw [wl]
      exact E7.ok e he
    · exact k v9 H9 N (((k6.trans k7).trans k8).trans k9.nil) ((hP8.kp k9 (by simp)).mono (by omega)) hN9 g9
end
end K41
namespace K41
open PySem PySem.Spec PyProof.Rows L2 PySem.W
theorem walkG {K : PySem.W.Frag} {a : Addr} {α : Type} {items : List α} {g : α → V} : Walk (Itl K a) items.length (fun H => SqL K H a (items.map g)) (fun i H x H' => H' = H ∧ ∀ it, items[i]? = some it → x = g it) := by
  have e : items.length = (items.map g).length := (List.length_map ..).symm
  rw [e]
  refine walk_list.mono (fun _ h => h) (fun i H x H' _ _ y => ⟨y.1, fun it hit => ?_⟩)
  have q := y.2
  rw [List.getElem?_map, hit] at q
  exact (Option.some.inj q).symm
section
variable {P : Program} {w : World} {K : PySem.W.Frag} {mg : Str → Option Value} {base : Heap} {C : Addr}
/-- the law's net and data in, data out -/
def spL (K : PySem.W.Frag) (R : Net → List PyData → PyData → Prop) : Sp := fun vs H Q _ => ∃ (S : List Addr) (v : L2.V) (rest : List L2.V) (N : Net) (ds : List PyData), vs = v :: rest ∧ Live S H ∧ LNet K (hid S H) v N ∧ Good N ∧ DpAll K (hid S H) rest ds ∧ (∃ d, R N ds d) ∧
  ∀ v' H' d, Kp [] H H' → R N ds d → Dp K (hid S H') v' d → Q v' H'
def rFree (N : Net) (ds : List PyData) (d : PyData) : Prop := ds = [] ∧ d = eW (freeF N)
theorem c_l_free (Y : Env K mg C) : Def P w K mg base (Str.ofString "_law_free") 1 ["_law_net_here"] (spL K rFree) := by
  refine def_mk Y.t_l_free sc_l_free bb_l_free (fun vs H Q E h => ?_) (fun f cdv A outer s H vs Q E hr h => ?_)
  · obtain ⟨S, v, rest, N, ds, rfl, hS, hN, g, h, ⟨d, rfl, _⟩, k⟩ := h
    exact congrArg Nat.succ (DpAll.length h)
  · obtain ⟨S, v, rest, N, ds, rfl, hS, hN, g, h, ⟨d, rfl, _⟩, k⟩ := h
    obtain rfl := da_nil h
    have hu := hu_of hr
    obtain ⟨a, b, e, w, rfl, h1, h2, h3, h4⟩ := hN.mono hid_le
    refine ⟨_, (pss_one (ps_ret (pe_lc (own := [("_law_lamp", 1)]) rfl sc_l_free.nd (K_pil (K := K) rfl (pe_ix (K_ixL (K := K) rfl) (pv 0) pe_int (fun _ _ => rfl))) (blkOk_by (own := [("_law_lamp", 1)]) (N := ["_law_net_here", "_law_lamp"]) (sc := defScope s_l_free) (by decide +kernel)) (fun _ _ _ _ _ => (pg_name (i := 1) sc_l_free.nd rfl (Or.inl rfl))) (fun _ _ _ _ _ => (pts_one (pt_cmpR op_ne (pe_dget (hu_of hr) (pe_ix (K_ixL (K := K) rfl) (pv 0) pe_int (fun _ _ => rfl)) (pv 1) (fun _ _ => rfl)) pe_str (nomark _)))) (fun _ _ _ _ _ => (pv 1))))), ?_⟩
    refine ⟨_, rfl, a, _, 0, _, rfl, rfl, h1, at0, b, rfl, ⟨_, h2⟩, fun D hD => ?_⟩
    refine lcT (K := K) (items := N.lamps) (S := S) walkW (fun l => decide (N.wish l ≠ "stuck")) (fun l => .str l) hD hS (by have := g.few; omega) (fun H' kp => kp.same.seq h2) ?_ ?_
    · rintro i x x1 Ha Hb Yes No hi kp hL ⟨rfl, y⟩ yes no
      obtain rfl := y x hi
      have gx : DGet Hb w (.str x) (some (.str (N.wish x))) := by
        have q := DGet.k (k := Sum.inr x) (kp.same _ _ h4)
        rw [valV_fk (List.mem_of_getElem? hi)] at q
        exact q
      refine ⟨rfl, _, rfl, a, _, 2, _, rfl, rfl, kp.same.seq h1, at2, _, rfl, w, _, rfl, gx, rfl, _, rfl, ?_⟩
      rw [str_eqb]
      by_cases h : N.wish x = "stuck"
      · exact if_no (by rw [decide_eq_true h]; rfl) (no _ .refl (by simpa using h))
      · exact if_yes (by rw [decide_eq_false h]; rfl) ⟨_, rfl, yes _ _ .refl (by simpa using h) (.str x)⟩
    · intro Ha ys kp hL hl hle da dp
      exact k _ _ _ kp ⟨rfl, rfl⟩ dp
def rReadyB (K : PySem.W.Frag) : Sp := fun vs H Q _ => ∃ (S : List Addr) (v u : L2.V) (r : Addr) (N : Net) (s : List Str) (l : Str), vs = [v, .ref r, u, .str l] ∧ Live S H ∧ LNet K (hid S H) v N ∧ Good N ∧ NearAt K (hid S H) r N.lamps N.ties ∧ Dp K (hid S H) u (eW s) ∧ l ∈ N.lamps ∧
  ∀ H', Kp [] H H' → Q (.bl (readyF N s l)) H'
theorem ready_alt {N : Net} (g : Good N) {s : List Str} {l : Str} (hl : l ∈ N.lamps) : readyF N s l = decide (N.wish l = if ((litF N s l).length : Int) % 2 = 0 then ("even" : Str) else "odd") := by
  have hw := g.wishes l hl
  have e1 : ("even" : Str) ≠ "odd" := by decide +kernel
  have e2 : ("even" : Str) ≠ "stuck" := by decide +kernel
  have e3 : ("odd" : Str) ≠ "stuck" := by decide +kernel
  have e4 : ("stuck" : Str) ≠ "odd" := by decide +kernel
  have e5 : ("stuck" : Str) ≠ "even" := by decide +kernel
  have h2 : ((litF N s l).length : Int) % 2 = 0 ∨ ((litF N s l).length : Int) % 2 = 1 := by omega
  unfold readyF
  simp only [List.mem_cons, List.not_mem_nil, or_false] at hw
  rcases hw with h | h | h <;> rcases h2 with h2 | h2 <;> rw [h, h2] <;> simp [e1, e1.symm, e2, e3, e4, e5]
theorem c_l_is_ready (Y : Env K mg C) : Def P w K mg base (Str.ofString "_law_is_ready") 1 ["_law_net_here", "_law_near_here", "_law_setting_here", "_law_lamp"] (rReadyB K) := by
  refine def_mk Y.t_l_is_ready sc_l_is_ready bb_l_is_ready (fun vs H Q E h => ?_) (fun f cdv A outer s H vs Q E hr h => ?_)
  · obtain ⟨S, v, u, r, N, s, l, rfl, _⟩ := h
    rfl
  · obtain ⟨S, v, u, r, N, st, l, rfl, hS, hN, g, hr', hs, hl, k⟩ := h
    have hu := hu_of hr
    obtain ⟨a, b, e, w, rfl, h1, h2, h3, h4⟩ := hN.mono hid_le
    obtain ⟨nb, n1, n2⟩ := hr'.mono hid_le
    obtain ⟨sa, rfl, hsa⟩ := dp_words hs
    have hsa0 : SqL K H sa _ := hid_le.seq hsa
    refine ⟨_, (pss_cons (ps_set (i := 4) sc_l_is_ready.nd rfl (Or.inl rfl) (pe_callB (K_len (K := K) rfl) (by rfl) Y.n_len (by decide +kernel) (pa_cons (pe_lc (own := [("_law_other", 5)]) rfl sc_l_is_ready.nd (K_pil (K := K) rfl (pe_dget (hu_of hr) (pv 1) (pv 3) (fun _ _ => rfl))) (blkOk_by (own := [("_law_other", 5)]) (N := ["_law_net_here", "_law_near_here", "_law_setting_here", "_law_lamp", "_law_lit", "_law_other"]) (sc := defScope s_l_is_ready) (by decide +kernel)) (fun _ _ _ _ _ => (pg_name (i := 5) sc_l_is_ready.nd rfl (Or.inl rfl))) (fun _ _ _ _ _ => (pts_one (pt_cmpR (K_in_seq (K := K) rfl) (pv 5) (pv 2) rfl))) (fun _ _ _ _ _ => (pv 5))) pa_nil)))
    (pss_one (ps_ret (pe_cmpR op_eq (pe_dget (hu_of hr) (pe_ix (K_ixL (K := K) rfl) (pv 0) pe_int (fun _ _ => rfl)) (pv 3) (fun _ _ => rfl)) (pe_ix (K_ixL (K := K) rfl) (pe_lst (pa_cons pe_str (pa_cons pe_str pa_nil))) (pe_op op_mod (pe_callTy call_int1 (by rfl) Y.n_int (by decide +kernel) (pa_cons (pv 4) pa_nil)) pe_int) (fun _ _ => rfl)) (nomark _))))), ?_⟩
    have g1 : DGet H r (.str l) (some (.ref (nb l))) := by
      have q := DGet.k (k := Sum.inr l) n1
      rw [valV_fk hl] at q
      exact q
    refine ⟨_, rfl, _, rfl, r, _, rfl, g1, nb l, rfl, ⟨_, n2 l hl⟩, fun D hD => ?_⟩
    refine lcT (K := K) (items := nearF N.ties l) (S := S) walkW (fun o => decide (o ∈ st)) (fun l => .str l) hD hS (by have := g.nearlen l; omega) (fun H' kp => kp.same.seq (n2 l hl)) ?_ ?_
    · rintro i x x1 Ha Hb Yes No hi kp hL ⟨rfl, y⟩ yes no
      obtain rfl := y x hi
      refine ⟨rfl, _, rfl, _, rfl, sa, _, rfl, .inl (kp.same.seq hsa0), rfl, flat_strs _, _, rfl, ?_⟩
      have q : (if false = true then !inV (.str x) (st.map L2.V.str) else inV (.str x) (st.map L2.V.str)) = decide (x ∈ st) := by rw [if_neg (by decide), inV_str]
      rw [q]
      by_cases h : x ∈ st
      · exact if_yes (decide_eq_true h) ⟨_, rfl, yes _ _ .refl (decide_eq_true h) (.str x)⟩
      · exact if_no (decide_eq_false h) (no _ .refl (decide_eq_false h))
    · intro Ha ys kp hL hl2 hle da dp
      have hyl : ys.length = (litF N st l).length := by
        have q := DpAll.length da
        rwa [List.length_map] at q
      have gw : DGet Ha w (.str l) (some (.str (N.wish l))) := by
        have q := DGet.k (k := Sum.inr l) (kp.same _ _ h4)
        rw [valV_fk hl] at q
        exact q
      refine ⟨D, ys, rfl, .inl (.inl (.inl hl2)), ?_⟩
      refine ⟨_, rfl, a, _, 2, _, rfl, rfl, kp.same.seq h1, at2, _, rfl, w, _, rfl, gw, ?_⟩
      refine ⟨by show 2 ≤ sizeLine; decide, fun p np => ?_⟩
      refine ⟨_, rfl, .inl ⟨_, rfl, _, _, rfl, rfl, by show (0 : Int) < 2; decide, ?_⟩⟩
      have hx : atI [L2.V.str "even", .str "odd"] ((ys.length : Int) % 2) = some (.str (if ((litF N st l).length : Int) % 2 = 0 then "even" else "odd")) := by
        rw [hyl]
        have h2 : ((litF N st l).length : Int) % 2 = 0 ∨ ((litF N st l).length : Int) % 2 = 1 := by omega
        rcases h2 with h2 | h2
        · rw [h2, if_pos rfl]
          exact at0
        · rw [h2, if_neg (by decide)]
          exact at1
      refine ⟨p, _, _, _, rfl, rfl, .inl (.inl upd_same), hx, rfl, ?_⟩
      rw [str_eqb, ← ready_alt g hl]
      exact k _ (kp.new np)
theorem c_l_flip (Y : Env K mg C) : Def P w K mg base (Str.ofString "_law_flip") 1 ["_law_setting_here", "_law_lamp"] (spR K rFlip) := by
  refine def_mk Y.t_l_flip sc_l_flip bb_l_flip (fun vs H Q E h => ?_) (fun f cdv A outer s H vs Q E hr h => ?_)
  · obtain ⟨S, ds, d, _, h, ⟨s, l, rfl, _⟩, _⟩ := h
    exact DpAll.length h
  · obtain ⟨S, ds, d, hS, h, ⟨st, l, rfl, hn, rfl⟩, k⟩ := h
    obtain ⟨u, u2, rfl, h1, h2⟩ := da2 h
    obtain rfl := dp_str h2
    obtain ⟨a, rfl, hl⟩ := dp_words h1
    have hl0 : SqL K H a _ := Same.seq hid_le hl
    refine ⟨_, (pss_one (ps_ret (pe_ifExp (pt_cmpR (K_in_seq (K := K) rfl) (pv 1) (pv 0) rfl) (pe_lc (own := [("_law_other", 2)]) rfl sc_l_flip.nd (K_pil (K := K) rfl (pv 0)) (blkOk_by (own := [("_law_other", 2)]) (N := ["_law_setting_here", "_law_lamp", "_law_other"]) (sc := defScope s_l_flip) (by decide +kernel)) (fun _ _ _ _ _ => (pg_name (i := 2) sc_l_flip.nd rfl (Or.inl rfl))) (fun _ _ _ _ _ => (pts_one (pt_cmpR op_ne (pv 2) (pv 1) (nomark _)))) (fun _ _ _ _ _ => (pv 2))) (pe_callB (K_sort (K := K) rfl (hu100 hr)) (by rfl) Y.n_sorted (by decide +kernel) (pa_cons (pe_op (K_cat (K := K) rfl) (pv 0) (pe_lst (pa_cons (pv 1) pa_nil))) pa_nil))))), ?_⟩
    refine ⟨_, rfl, _, rfl, a, _, rfl, .inl hl0, rfl, flat_strs _, _, rfl, ?_⟩
    have q : (if false = true then !inV (.str l) (st.map L2.V.str) else inV (.str l) (st.map L2.V.str)) = decide (l ∈ st) := by
      rw [if_neg (by decide), inV_str]
    rw [q]
    unfold flipF at k
    by_cases hm : l ∈ st
    · rw [if_pos hm] at k
      refine if_yes (decide_eq_true hm) ?_
      refine ⟨_, rfl, a, rfl, ⟨_, hl0⟩, fun D hD => ?_⟩
      refine lcT (K := K) (items := st) (S := S) walkW (fun o => decide (o ≠ l)) (fun l => .str l) hD hS (by omega) (fun H' kp => kp.same.seq hl0) ?_ ?_
      · rintro i x x1 Ha Hb Yes No hi kp hL ⟨rfl, y⟩ yes no
        obtain rfl := y x hi
        refine ⟨rfl, _, rfl, _, rfl, rfl, _, rfl, ?_⟩
        rw [str_eqb]
        by_cases h : x = l
        · refine if_no (by rw [decide_eq_true h]; rfl) (no _ .refl (by simpa using h))
        · refine if_yes (by rw [decide_eq_false h]; rfl) ⟨_, rfl, yes _ _ .refl (by simpa using h) (.str x)⟩
      · intro Ha ys2 kp hL hl2 hle da dp
        exact k _ _ kp dp
    · rw [if_neg hm] at k
      refine if_no (decide_eq_false hm) ?_
      refine ⟨_, rfl, _, rfl, by show 1 ≤ sizeLine; decide, fun p np => ?_⟩
      have k1 : Kp [] H (upd H p (.lst [.str l])) := kp_new np
      have hp1 : Dp K (hid S (upd H p (.lst [.str l]))) (.ref p) (eW [l]) := words_dp (.inl (.inl (hid_at upd_same (not_mem_of hS np))))
      refine cat_ans (k1.live hS) (Dp.mono k1.hid0 h1) hp1 (by rw [List.length_map, List.length_map]; show st.length + 1 ≤ _; omega) fun p2 xs np2 hxs dxs _ => ?_
      have ex : xs = (st ++ [l]).map L2.V.str := by
        rw [← List.map_append] at dxs
        exact da_strs dxs
      refine sort_words (ws := st ++ [l]) (.inl (.inl (by rw [upd_same, ex]))) fun p3 np3 => ?_
      exact k _ _ ((k1.new np2).new np3) (words_dp (.inl (.inl (hid_at upd_same (not_mem_of ((k1.new (o := .lst xs) np2).live hS) np3)))))
def spSet (K : PySem.W.Frag) : Sp := fun vs H Q _ => ∃ (S : List Addr) (p : Addr) (m : Nat) (v : L2.V) (N : Net), vs = [.ref p, v] ∧ Live S H ∧ p ∈ S ∧ Purse H p m ∧ m + 8 ≤ 1000000000 ∧ LNet K (hid S H) v N ∧ Good N ∧
  ∀ v' H' s, Kp [p] H H' → Purse H' p (m + 8) → IsSet N s → Dp K (hid S H') v' (eW s) → Q v' H'
theorem c_l_setting (Y : Env K mg C) : Def P w K mg base (Str.ofString "_law_setting") 3 ["_law_purse_here", "_law_net_here"] (spSet K) := by
  refine def_mk Y.t_l_setting sc_l_setting bb_l_setting (fun vs H Q E h => ?_) (fun f cdv A outer s H vs Q E hr h => ?_)
  · obtain ⟨S, p, m, v, N, rfl, _⟩ := h
    rfl
  · obtain ⟨S, p, m, v, N, rfl, hS, hp, hP, hm, hN, g, k⟩ := h
    have hN2 := hN
    obtain ⟨a, b, e, w, rfl, h1, h2, h3, h4⟩ := hN
    have g8 := g.few
    refine ⟨_, (pss_one (ps_ret (pe_lc (own := [("_law_lamp", 2)]) rfl sc_l_setting.nd (K_pil (K := K) rfl (pe_ix (K_ixL (K := K) rfl) (pv 1) pe_int (fun _ _ => rfl))) (blkOk_by (own := [("_law_lamp", 2)]) (N := ["_law_purse_here", "_law_net_here", "_law_lamp"]) (sc := defScope s_l_setting) (by decide +kernel)) (fun _ _ _ _ _ => (pg_name (i := 2) sc_l_setting.nd rfl (Or.inl rfl))) (fun _ _ _ _ _ => (pts_one (pt_cmpR op_eq (pe_def (c_l_draw Y) (hr.mono (by decide)) (pa_cons (pv 0) (pa_cons pe_int pa_nil))) pe_int (nomark _)))) (fun _ _ _ _ _ => (pv 2))))), ?_⟩
    refine ⟨_, rfl, a, _, 0, _, rfl, rfl, hid_le.seq h1, at0, b, rfl, ⟨_, hid_le.seq h2⟩, fun D hD => ?_⟩
    have hpD : p ≠ D := hP.ne hD
    refine lcR (K := K) (S := S) (T := [p]) (walkW (ws := N.lamps)) (fun i H' => Purse H' p (m + i)) (fun i ds => ∃ s : List Str, ds = s.map .str ∧ s.Sublist (N.lamps.take i)) hD (pin hp) hS (by omega) (fun H' kp => hid_le.seq ((kp.hid (pin hp)).seq h2)) ⟨[], rfl, .slnil⟩ hP (fun i H' o h => h.upd hpD) ?_ ?_
    · rintro i x Ha Hb ds Yes No hi kp hL hPi ⟨s, rfl, hs⟩ ⟨rfl, y⟩ yes no
      have hg := List.getElem?_eq_getElem hi
      obtain rfl := y _ hg
      refine ⟨rfl, _, rfl, D :: S, p, _, _, [.int 2], rfl, hL, List.mem_cons_of_mem _ hp, hPi, by omega, .cons (.int _) .nil, ⟨_, rfl, by decide, by decide⟩, fun v3 H3 d3 k3 hP3 hr3 hv3 => ?_⟩
      obtain ⟨j, rfl, _, _⟩ := draw_is hr3 hv3
      refine ⟨rfl, _, rfl, ?_⟩
      generalize decide (L2.V.int j = L2.V.int 0) = bb
      cases bb with
      | false => exact no _ k3 hP3 ⟨s, rfl, by rw [take_snoc' hg]; exact hs.trans (List.sublist_append_left _ _)⟩
      | true => exact ⟨_, rfl, yes _ _ (.str N.lamps[i]) k3 hP3 (.str _) ⟨s ++ [N.lamps[i]], by rw [List.map_append]; rfl, by rw [take_snoc' hg]; exact List.Sublist.append hs (List.Sublist.refl _)⟩⟩
    · rintro H3 ys ds kp hL hP3 ⟨s, rfl, hs⟩ hl hle da dp
      rw [List.take_length] at hs
      exact k _ _ s kp (hP3.mono (by omega)) ⟨g.sorted.sublist hs, fun x hx => hs.subset hx⟩ dp
def dFew26 (ds : List PyData) : Prop := ∃ ws : List Str, ds = [eW ws] ∧ ws.length < 26
def rFar (ds : List PyData) (d : PyData) : Prop := ∃ x, d = .str x ∧ Word x
theorem oct_word {c : Nat} (h1 : 97 ≤ c) (h2 : c ≤ 122) : Word (oct c) := word_of (by show 0 < 8; decide) (by show 8 ≤ 8; decide) fun z hz => by
  have q : z = c := by
    have hz' : z ∈ [c, c, c, c, c, c, c, c] := hz
    simpa using hz'
  rw [q]
  exact ⟨h1, h2⟩
theorem oct_free {ws : List Str} (h : ws.length < 26) : 0 < ((alpha.cps.toList).filter fun c => decide (oct c ∉ ws)).length := by
  have hn : (alpha.cps.toList.map oct).Nodup := by decide +kernel
  have hl : (alpha.cps.toList.map oct).length = 26 := by decide +kernel
  refine Nat.pos_of_ne_zero fun z => ?_
  have sub : ∀ x ∈ (alpha.cps.toList.map oct), x ∈ ws := fun x hx => by
    obtain ⟨c, hc, rfl⟩ := List.mem_map.mp hx
    by_cases hw : oct c ∈ ws
    · exact hw
    · exact absurd (List.mem_filter.mpr ⟨hc, decide_eq_true hw⟩) (by rw [List.length_eq_zero_iff.mp z]; simp)
  have q := nodup_len hn sub
  omega
theorem c_l_far (Y : Env K mg C) : Def P w K mg base (Str.ofString "_law_far") 1 ["_law_words_here"] (spD K dFew26 rFar) := by
  refine def_mk Y.t_l_far sc_l_far bb_l_far (fun vs H Q E h => ?_) (fun f cdv A outer s H vs Q E hr h => ?_)
  · obtain ⟨S, ds, _, h, ⟨ws, rfl, _⟩, _⟩ := h
    exact DpAll.length h
  · obtain ⟨S, ds, hS, h, ⟨ws, rfl, hw26⟩, k⟩ := h
    obtain ⟨v, rfl, h1⟩ := da1 h
    obtain ⟨a, rfl, hl⟩ := dp_words h1
    have hl0 : SqL K H a _ := hid_le.seq hl
    refine ⟨_, (pss_one (ps_ret (pe_ix (K_ixL (K := K) rfl) (pe_lc (own := [("_law_letter", 1)]) rfl sc_l_far.nd (K_pil (K := K) rfl (pe_callTy (call_listS rfl) (by rfl) Y.n_list (by decide +kernel) (pa_cons pe_str pa_nil))) (blkOk_by (own := [("_law_letter", 1)]) (N := ["_law_words_here", "_law_letter"]) (sc := defScope s_l_far) (by decide +kernel)) (fun _ _ _ _ _ => (pg_name (i := 1) sc_l_far.nd rfl (Or.inl rfl))) (fun _ _ _ _ _ => (pts_one (pt_cmpR (K_notIn_seq (K := K) rfl) (pe_op op_oct (pv 1) pe_int) (pv 0) rfl))) (fun _ _ _ _ _ => (pe_op op_oct (pv 1) pe_int))) pe_int (fun _ _ => rfl)))), ?_⟩
    refine ⟨_, rfl, by rw [sizeLine_eq]; have := alpha_len; show alpha.length ≤ _; omega, fun al nal => ?_⟩
    have k6 : Kp [] H (upd H al (.lst ((alpha.cps.toList.map fun c => L2.V.str ⟨#[c]⟩)))) := kp_new nal
    have ha1 : (upd H al (.lst ((alpha.cps.toList.map fun c => L2.V.str ⟨#[c]⟩)))) al = some (.lst (alpha.cps.toList.map fun c => L2.V.str ⟨#[c]⟩)) := upd_same
    have ecl : (Str.ofString "abcdefghijklmnopqrstuvwxyz") = alpha := rfl
    rw [ecl]
    generalize (upd H al (.lst ((alpha.cps.toList.map fun c => L2.V.str ⟨#[c]⟩)))) = H6 at ha1 k6 ⊢
    refine ⟨al, rfl, ⟨_, .inl (.inl ha1)⟩, fun D hD => ?_⟩
    refine lcT (K := K) (items := alpha.cps.toList) (S := []) walkG (fun c => decide (oct c ∉ ws)) (fun c => .str (oct c)) hD Live.nil (by show alpha.length ≤ _; rw [alpha_len]; decide) (fun H' kp => .inl (.inl (kp.same _ _ ha1))) ?_ ?_
    · rintro i z x1 Ha Hb Yes No hi kp hL ⟨rfl, y⟩ yes no
      obtain rfl := y z hi
      refine ⟨rfl, _, rfl, z, rfl, rfl, _, rfl, a, _, rfl, .inl ((k6.trans kp).same.seq hl0), rfl, flat_strs _, _, rfl, ?_⟩
      have q8 : (if true = true then !inV (.str (oct z)) (ws.map L2.V.str) else inV (.str (oct z)) (ws.map L2.V.str)) = decide (oct z ∉ ws) := by
        rw [if_pos rfl, inV_str]
        by_cases h : oct z ∈ ws <;> simp [h]
      rw [q8]
      by_cases h : oct z ∉ ws
      · exact if_yes (decide_eq_true h) ⟨_, rfl, z, rfl, rfl, yes _ _ .refl (decide_eq_true h) (.str _)⟩
      · exact if_no (decide_eq_false h) (no _ .refl (decide_eq_false h))
    · rintro H7 ys kp hL hl hle da dp
      have hfree := oct_free hw26
      have g0 := List.getElem?_eq_getElem hfree
      obtain ⟨hm1, hm2⟩ := List.mem_filter.mp (List.getElem_mem hfree)
      obtain ⟨v7, hv7, hd7⟩ := da_get da g0
      obtain rfl := dp_str hd7
      refine ⟨D, ys, 0, _, rfl, rfl, .inl (.inl hl), atI_nat (j := 0) hv7, ?_⟩
      have q : ∀ c ∈ alpha.cps.toList, 97 ≤ c ∧ c ≤ 122 := by decide +kernel
      obtain ⟨q1, q2⟩ := q _ hm1
      exact k _ _ _ (k6.trans kp) ⟨_, rfl, oct_word q1 q2⟩ (.str _)
theorem dir_words (n : Int) (ws : List Str) : dirL n (ws.map L2.V.str) = (if n = 1 then ws else ws.reverse).map L2.V.str := by
  unfold dirL
  split
  · rfl
  · rw [List.map_reverse]
theorem dir_da {H : Hp} {xs : List L2.V} {ts : List (Str × Str)} (n : Int) (h : DpAll K H xs (ts.map eT2)) : DpAll K H (dirL n xs) ((if n = 1 then ts else ts.reverse).map eT2) := by
  unfold dirL
  split
  · exact h
  · rw [List.map_reverse]
    have q : ∀ {xs : List L2.V} {ds : List PyData}, DpAll K H xs ds → DpAll K H xs.reverse ds.reverse := by
      intro xs ds h
      induction xs generalizing ds with
      | nil =>
        cases h
        exact .nil
      | cons x xs ih =>
        cases h with
        | cons h1 h2 =>
          rw [List.reverse_cons, List.reverse_cons]
          exact DpAll.append (ih h2) (.cons h1 .nil)
    exact q h
def spMade (K : PySem.W.Frag) (C : Addr) : Sp := fun vs H Q _ => ∃ (S : List Addr) (v : L2.V) (N : Net), vs = [v] ∧ Live S H ∧ LNet K (hid S H) v N ∧ Good N ∧ ∀ n H', Kp [] H H' → NetV K C (hid S H') (.ref n) N → Q (.ref n) H'
theorem dir_perm {α : Type} (n : Int) (l : List α) : (if n = 1 then l else l.reverse).Perm l := by
  split
  · exact List.Perm.refl _
  · exact List.reverse_perm _
theorem c_l_net (Y : Env K mg C) : Def P w K mg base (Str.ofString "_law_net") 6 ["_law_net_here"] (spMade K C) := by
  refine def_mk Y.t_l_net sc_l_net bb_l_net (fun vs H Q E h => ?_) (fun f cdv A outer s H vs Q E hr h => ?_)
  · obtain ⟨S, v, N, rfl, _⟩ := h
    rfl
  · obtain ⟨S, v, N, rfl, hS, hN, g, k⟩ := h
    have hu := hu_of hr
    have g8 := g.few
    have hN2 := hN
    obtain ⟨a, b, e, w, rfl, h1, h2, h3, h4⟩ := hN
    obtain ⟨ea, ex, eea, he1, he2⟩ := dp_list h3
    cases eea
    have h10 := hid_le.seq h1
    have h20 := hid_le.seq h2
    have he10 := hid_le.seq he1
    have h40 : H w = some _ := hid_le _ _ h4
    refine ⟨_, (pss_cons (ps_set (i := 1) sc_l_net.nd rfl (Or.inl rfl) (pe_op op_sub pe_int (pe_op op_mul pe_int (pe_op op_mod (pe_callTy call_int1 (by rfl) Y.n_int (by decide +kernel) (pa_cons (pe_callB (K_sum (K := K) rfl rfl) (by rfl) Y.n_sum (by decide +kernel) (pa_cons (pe_lc (own := [("_law_lamp", 2)]) rfl sc_l_net.nd (K_pil (K := K) rfl (pe_ix (K_ixL (K := K) rfl) (pv 0) pe_int (fun _ _ => rfl))) (blkOk_by (own := [("_law_lamp", 2)]) (N := ["_law_net_here", "_law_step", "_law_lamp"]) (sc := defScope s_l_net) (by decide +kernel)) (fun _ _ _ _ _ => (pg_name (i := 2) sc_l_net.nd rfl (Or.inl rfl))) (fun _ _ _ _ _ => pts_nil) (fun _ _ _ _ _ => (pe_callB call_len_str (by rfl) Y.n_len (by decide +kernel) (pa_cons (pv 2) pa_nil)))) pa_nil)) pa_nil)) pe_int))))
    (pss_one (ps_ret (pe_net Y (k := 0) hr (pa_cons (K_step (K := K) rfl (pe_ix (K_ixL (K := K) rfl) (pv 0) pe_int (fun _ _ => rfl)) (pv 1)) (pa_cons (K_step (K := K) rfl (pe_ix (K_ixL (K := K) rfl) (pv 0) pe_int (fun _ _ => rfl)) (pv 1)) (pa_cons (pe_callTy (K_dict (K := K) rfl rfl) (by rfl) Y.n_dict (by decide +kernel) (pa_cons (pe_lc (own := [("_law_lamp", 2)]) rfl sc_l_net.nd (K_pil (K := K) rfl (K_step (K := K) rfl (pe_ix (K_ixL (K := K) rfl) (pv 0) pe_int (fun _ _ => rfl)) (pv 1))) (blkOk_by (own := [("_law_lamp", 2)]) (N := ["_law_net_here", "_law_step", "_law_lamp"]) (sc := defScope s_l_net) (by decide +kernel)) (fun _ _ _ _ _ => (pg_name (i := 2) sc_l_net.nd rfl (Or.inl rfl))) (fun _ _ _ _ _ => pts_nil) (fun _ _ _ _ _ => (pe_tup (pa_cons (pv 2) (pa_cons (pe_dget (hu_of hr) (pe_ix (K_ixL (K := K) rfl) (pv 0) pe_int (fun _ _ => rfl)) (pv 2) (fun _ _ => rfl)) pa_nil))))) pa_nil)) pa_nil))))))), ?_⟩
    -- the step
    refine ⟨_, rfl, a, _, 0, _, rfl, rfl, h10, at0, b, rfl, ⟨_, h20⟩, fun D hD => ?_⟩
    refine lcS (K := K) (items := N.lamps) (S := S) walkW (fun l => .int (l.length : Int)) hD hS (by omega) (fun H' kp => kp.same.seq h20) ?_ ?_
    · rintro i x x1 Ha Hb Yes hi kp hL ⟨rfl, y⟩ yes
      obtain rfl := y x hi
      have hx8 := (g.words x (List.mem_of_getElem? hi)).2.1
      exact ⟨rfl, _, rfl, x, rfl, by rw [sizeLine_eq]; omega, yes _ _ .refl (.int _)⟩
    intro H1 ys k1 hL1 hl1 hle1 da1' dp1
    have e1 : (N.lamps.map fun l => PyData.int (l.length : Int)) = (N.lamps.map fun l => (l.length : Int)).map .int := by rw [List.map_map]; rfl
    rw [e1] at da1'
    rw [da_ints da1'] at hl1
    refine ⟨D, _, rfl, .inl (.inl hl1), .inl ⟨_, rfl, _, _, rfl, rfl, by show (0 : Int) < 2; decide, _, _, rfl, rfl, .inl ⟨by decide, by decide⟩, _, _, rfl, rfl, ?_⟩⟩
    have hst : (1 : Int) - 2 * ((N.lamps.map fun l => (l.length : Int)).sum % 2) = 1 ∨ (1 : Int) - 2 * ((N.lamps.map fun l => (l.length : Int)).sum % 2) = -1 := by omega
    obtain ⟨stp, hstp⟩ : ∃ z, (1 : Int) - 2 * ((N.lamps.map fun l => (l.length : Int)).sum % 2) = z := ⟨_, rfl⟩
    rw [hstp] at hst
    -- lamps, ties
    refine ⟨_, rfl, a, _, 0, _, rfl, rfl, k1.same.seq h10, at0, _, rfl, stp, congrArg L2.V.int hstp, b, _, rfl, k1.same.seq h20, hst, fun wl nwl => ?_⟩
    have k2 : Kp [] H1 (upd H1 wl (.lst (dirL stp (N.lamps.map L2.V.str)))) := kp_new nwl
    have w2 : (upd H1 wl (.lst (dirL stp (N.lamps.map L2.V.str)))) wl = some (.lst ((if stp = 1 then N.lamps else N.lamps.reverse).map L2.V.str)) := by rw [upd_same, dir_words]
    have nwl0 := k1.free nwl
    generalize (upd H1 wl (.lst (dirL stp (N.lamps.map L2.V.str)))) = H2 at k2 w2 ⊢
    have k02 := k1.trans k2
    refine ⟨_, rfl, a, _, 1, _, rfl, rfl, k02.same.seq h10, at1, _, rfl, stp, congrArg L2.V.int hstp, e, ex, rfl, k02.same.seq he10, hst, fun tl ntl => ?_⟩
    have k3 : Kp [] H2 (upd H2 tl (.lst (dirL stp ex))) := kp_new ntl
    have t3 : (upd H2 tl (.lst (dirL stp ex))) tl = some (.lst (dirL stp ex)) := upd_same
    have ntl0 := k02.free ntl
    generalize (upd H2 tl (.lst (dirL stp ex))) = H3 at k3 t3 ⊢
    have k03 := k02.trans k3
    have td3 : DpAll K (hid S H3) (dirL stp ex) ((if stp = 1 then N.ties else N.ties.reverse).map eT2) := dir_da stp (DpAll.mono k03.hid0 he2)
    -- wishes
    refine ⟨_, rfl, a, _, 0, _, rfl, rfl, k03.same.seq h10, at0, _, rfl, stp, congrArg L2.V.int hstp, b, _, rfl, k03.same.seq h20, hst, fun ul nul => ?_⟩
    have k4 : Kp [] H3 (upd H3 ul (.lst (dirL stp (N.lamps.map L2.V.str)))) := kp_new nul
    have u4 : (upd H3 ul (.lst (dirL stp (N.lamps.map L2.V.str)))) ul = some (.lst ((if stp = 1 then N.lamps else N.lamps.reverse).map L2.V.str)) := by rw [upd_same, dir_words]
    generalize (upd H3 ul (.lst (dirL stp (N.lamps.map L2.V.str)))) = H4 at k4 u4 ⊢
    have k04 := k03.trans k4
    have hpm := dir_perm stp N.lamps
    have hpt := dir_perm stp N.ties
    have hmem : ∀ x, x ∈ (if stp = 1 then N.lamps else N.lamps.reverse) ↔ x ∈ N.lamps := fun x => hpm.mem_iff
    have hlen : (if stp = 1 then N.lamps else N.lamps.reverse).length = N.lamps.length := hpm.length_eq
    have hnd : (if stp = 1 then N.lamps else N.lamps.reverse).Nodup := hpm.nodup_iff.mpr (lt_nodup g.sorted)
    generalize (if stp = 1 then N.lamps else N.lamps.reverse) = ls at w2 u4 hpm hmem hlen hnd
    have htn : (if stp = 1 then N.ties else N.ties.reverse).Nodup := hpt.nodup_iff.mpr g.tunlike
    have htm : ∀ t, t ∈ (if stp = 1 then N.ties else N.ties.reverse) ↔ t ∈ N.ties := fun t => hpt.mem_iff
    have htl : (if stp = 1 then N.ties else N.ties.reverse).length = N.ties.length := hpt.length_eq
    generalize (if stp = 1 then N.ties else N.ties.reverse) = tsd at td3 hpt htn htm htl
    refine ⟨ul, rfl, ⟨_, .inl (.inl u4)⟩, fun D2 hD2 => ?_⟩
    refine lcS (K := K) (items := ls) (S := S) walkW (fun l => .tuple [.str l, .str (N.wish l)]) hD2 (k04.live hS) (by omega) (fun H' kp => .inl (.inl (kp.same _ _ u4))) ?_ ?_
    · rintro i x x1 Ha Hb Yes hi kp hL ⟨rfl, y⟩ yes
      obtain rfl := y x hi
      have kk := k04.trans kp
      have gx : DGet Hb w (.str x) (some (.str (N.wish x))) := by
        have q := DGet.k (k := Sum.inr x) (kk.same _ _ h40)
        rw [valV_fk ((hmem x).mp (List.mem_of_getElem? hi))] at q
        exact q
      exact ⟨rfl, _, rfl, _, rfl, a, _, 2, _, rfl, rfl, kk.same.seq h10, at2, _, rfl, w, _, rfl, gx, by show 2 ≤ sizeLine; decide, fun T nT => yes _ _ (kp_new nT) (.tup (.inl (.inl (hid_at upd_same (not_mem_of hL nT)))) (.cons (.str _) (.cons (.str _) .nil)))⟩
    intro H5 ys5 k5 hL5 hl5 hle5 da5 dp5
    obtain ⟨ps, eps, hps⟩ := da_kv da5
    refine ⟨D2, ps, _, rfl, .inl (.inl (by rw [hl5, eps])), paired_mono (fun p kv h => Same.tup hid_le h) hps, fun wd nwd => ?_⟩
    rw [mergeK_fk hnd]
    have k6 := (k04.trans k5).new (o := .dK (fk ls fun l => .str (N.wish l))) nwd
    have k26 : Kp [] H2 (upd H5 wd (.dK (fk ls fun l => .str (N.wish l)))) := ((k3.trans k4).trans k5).new nwd
    have k36 : Kp [] H3 (upd H5 wd (.dK (fk ls fun l => .str (N.wish l)))) := (k4.trans k5).new nwd
    refine make_ans ⟨⟨S, .ref wl, .ref tl, wd, ls, tsd, N.wish, rfl, k6.live hS, words_dp (.inl (.inl (hid_at (k26.same _ _ w2) (not_mem_of hS nwl0)))), .lst (.inl (.inl (hid_at (k36.same _ _ t3) (not_mem_of hS ntl0)))) (DpAll.mono k36.hid0 td3), hid_at upd_same (not_mem_of hL5 nwd),
      fun x hx => g.words x ((hmem x).mp hx), hnd, by have := g.some; omega, by omega, fun t ht => ?_, htn, by rw [htl]; exact g.tfew, fun l hl => g.wishes l ((hmem l).mp hl), fun n H' kn hn => ?_⟩⟩
    · obtain ⟨t1, t2, t3'⟩ := g.tok t ((htm t).mp ht)
      exact ⟨g.words _ t2, g.words _ t3', t1, (hmem _).mpr t2, (hmem _).mpr t3'⟩
    · have e1 : srt PyData.str ls = N.lamps := by rw [srt_eq inj_str hpm, srt_id (lt_pw g.sorted)]
      have e2 : srt eT2 tsd = N.ties := by rw [srt_eq inj_tie hpt, srt_id g.tsorted]
      rw [e1, e2] at hn
      exact k n H' (k6.trans kn) hn
def spPlaces (K : PySem.W.Frag) : Sp := fun vs H Q _ => ∃ (S : List Addr) (d : Addr) (od : Obj) (mm : Int) (N : Net) (f : Fd), vs = [.ref d, .int mm] ∧ Live S H ∧ H d = some (.frz od (.dT (eF f))) ∧ Good N ∧ KeysOk N f ∧
  ∀ (v' : L2.V) (H' : Hp) (ks : List (List Str)), Kp [] H H' → (∀ k, k ∈ ks ↔ k ∈ keysF f ∧ (lkF f k : Int) = mm) → ks.length ≤ 256 → Dp K (hid S H') v' (.list (ks.map eW)) → Q v' H'
theorem c_l_places (Y : Env K mg C) : Def P w K mg base (Str.ofString "_law_places") 1 ["_law_layers", "_law_most"] (spPlaces K) := by
  refine def_mk Y.t_l_places sc_l_places bb_l_places (fun vs H Q E h => ?_) (fun f cdv A outer s H vs Q E hr h => ?_)
  · obtain ⟨S, d, od, mm, N, f, rfl, _⟩ := h
    rfl
  · obtain ⟨S, d, od, mm, N, f, rfl, hS, hd, g, ok, k⟩ := h
    have hu := hu_of hr
    have few := ok.few g
    refine ⟨_, (pss_one (ps_ret (pe_lc (own := [("_law_here", 2)]) rfl sc_l_places.nd (K_pil (K := K) rfl (pe_callB (call_sortT rfl (hu100 hr)) (by rfl) Y.n_sorted (by decide +kernel) (pa_cons (pv 0) pa_nil))) (blkOk_by (own := [("_law_here", 2)]) (N := ["_law_layers", "_law_most", "_law_here"]) (sc := defScope s_l_places) (by decide +kernel)) (fun _ _ _ _ _ => (pg_name (i := 2) sc_l_places.nd rfl (Or.inl rfl))) (fun _ _ _ _ _ => (pts_one (pt_cmpR op_eq (pe_dget (hu_of hr) (pv 0) (pv 2) (fun _ _ => rfl)) (pv 1) (nomark _)))) (fun _ _ _ _ _ => (pe_callTy (K_list (K := K) rfl) (by rfl) Y.n_list (by decide +kernel) (pa_cons (pv 2) pa_nil)))))), ?_⟩
    refine ⟨_, rfl, d, eF f, keysF f, rfl, .inr ⟨od, hd⟩, by unfold eF keysF; rw [List.map_map, List.map_map]; rfl, fun sl bs nsl hbs hb => ?_⟩
    have k1 : Kp [] H (upd H sl (.lst ((bs.mergeSort (leD encT)).map fun b => L2.V.ref b.1))) := kp_new nsl
    have s1 : (upd H sl (.lst ((bs.mergeSort (leD encT)).map fun b => L2.V.ref b.1))) sl = some (.lst ((bs.mergeSort (leD encT)).map fun b => L2.V.ref b.1)) := upd_same
    have hmem : ∀ b, b ∈ bs.mergeSort (leD encT) ↔ b ∈ bs := fun b => (List.mergeSort_perm ..).mem_iff
    have hbl : bs.length ≤ 256 := by
      have q := congrArg List.length hbs
      rw [List.length_map, keysF, List.length_map] at q
      omega
    have hlen : (bs.mergeSort (leD encT)).length ≤ 256 := by rw [(List.mergeSort_perm bs (leD encT)).length_eq]; exact hbl
    generalize bs.mergeSort (leD encT) = zs at k1 s1 hmem hlen ⊢
    generalize (upd H sl (.lst (zs.map fun b => L2.V.ref b.1))) = H1 at k1 s1 ⊢
    refine ⟨sl, rfl, ⟨_, .inl (.inl s1)⟩, fun D hD => ?_⟩
    refine lcT (K := K) (items := zs) (S := S) walkG (fun b => decide ((lkF f b.2 : Int) = mm)) (fun b => eW b.2) hD (k1.live hS) (by omega) (fun H' kp => .inl (.inl (kp.same _ _ s1))) ?_ ?_
    · rintro i z x1 Ha Hb Yes No hi kp hL ⟨rfl, y⟩ yes no
      obtain rfl := y z hi
      have hz := (hmem z).mp (List.mem_of_getElem? hi)
      have kk := k1.trans kp
      have ht : Hb z.1 = some (.tup (z.2.map L2.V.str)) := kk.same _ _ (hb z hz)
      have hk : z.2 ∈ keysF f := by
        rw [← hbs]
        exact List.mem_map.mpr ⟨z, hz, rfl⟩
      have gz : DGet Hb d (.ref z.1) (some (.int (lkF f z.2 : Int))) := by
        have w : DGet Hb d (.ref z.1) (valV (eF f) (z.2.map Sum.inr : List Key)) := .inr ⟨eF f, z.2.map Sum.inr, z.1, .inr ⟨od, kk.same _ _ hd⟩, rfl, by rw [kV_inr]; exact ht, rfl⟩
        rw [valV_eF, if_pos hk] at w
        exact w
      refine ⟨rfl, _, rfl, _, rfl, d, _, rfl, gz, _, rfl, rfl, _, rfl, ?_⟩
      rw [int_eqb]
      by_cases h : (lkF f z.2 : Int) = mm
      · refine if_yes (decide_eq_true h) ⟨_, rfl, z.1, _, rfl, .inr (.inl (.inl ht)), fun p np => ?_⟩
        exact yes _ _ (kp_new np) (decide_eq_true h) (words_dp (.inl (.inl (hid_at upd_same (not_mem_of hL np)))))
      · exact if_no (decide_eq_false h) (no _ .refl (decide_eq_false h))
    · intro Ha ys kp hL hl hle da dp
      have e : ((zs.filter fun b => decide ((lkF f b.2 : Int) = mm)).map fun b => eW b.2) = ((zs.filter fun b => decide ((lkF f b.2 : Int) = mm)).map (·.2)).map eW := by rw [List.map_map]; rfl
      rw [e] at dp
      refine k _ _ _ (k1.trans kp) (fun x => ?_) (by rw [List.length_map]; exact Nat.le_trans (List.length_filter_le _ _) hlen) dp
      constructor
      · intro hx
        obtain ⟨b, hb', rfl⟩ := List.mem_map.mp hx
        obtain ⟨h1, h2⟩ := List.mem_filter.mp hb'
        exact ⟨by rw [← hbs]; exact List.mem_map.mpr ⟨b, (hmem b).mp h1, rfl⟩, of_decide_eq_true h2⟩
      · rintro ⟨hx, hm⟩
        rw [← hbs] at hx
        obtain ⟨b, hb', rfl⟩ := List.mem_map.mp hx
        exact List.mem_map.mpr ⟨b, List.mem_filter.mpr ⟨(hmem b).mpr hb', decide_eq_true hm⟩, rfl⟩
def rTurned (N : Net) (ds : List PyData) (d : PyData) : Prop := ∃ s s', ds = [eW s] ∧ IsSet N s ∧ d = eW s' ∧ IsSet N s'
theorem c_l_turned_stuck (Y : Env K mg C) : Def P w K mg base (Str.ofString "_law_turned_stuck") 2 ["_law_net_here", "_law_setting_here"] (spL K rTurned) := by
  refine def_mk Y.t_l_turned_stuck sc_l_turned_stuck bb_l_turned_stuck (fun vs H Q E h => ?_) (fun f cdv A outer s H vs Q E hr h => ?_)
  · obtain ⟨S, v, rest, N, ds, rfl, hS, hN, g, h, ⟨d, s, s', rfl, _⟩, k⟩ := h
    exact congrArg Nat.succ (DpAll.length h)
  · obtain ⟨S, v, rest, N, ds, rfl, hS, hN, g, h, ⟨d, st, s', rfl, hst, _⟩, k⟩ := h
    obtain ⟨u, rfl, hu1⟩ := da1 h
    have hu := hu_of hr
    have g8 := g.few
    obtain ⟨a, b, e, w, rfl, h1, h2, h3, h4⟩ := hN.mono hid_le
    refine ⟨_, (pss_cons (ps_setLc (i := 2) (own := [("_law_lamp", 3)]) rfl sc_l_turned_stuck.nd rfl rfl (sw_true rfl rfl rfl (by decide +kernel)) (K_pil (K := K) rfl (pe_ix (K_ixL (K := K) rfl) (pv 0) pe_int (fun _ _ => rfl))) (blkOk_by (own := [("_law_lamp", 3)]) (N := ["_law_net_here", "_law_setting_here", "_law_stuck", "_law_lamp"]) (sc := defScope s_l_turned_stuck) (by decide +kernel)) (fun _ _ _ _ _ => (pg_name (i := 3) sc_l_turned_stuck.nd rfl (Or.inl rfl))) (fun _ _ _ _ _ => (pts_one (pt_cmpR op_eq (pe_dget (hu_of hr) (pe_ix (K_ixL (K := K) rfl) (pv 0) pe_int (fun _ _ => rfl)) (pv 3) (fun _ _ => rfl)) pe_str (nomark _)))) (fun _ _ _ _ _ => (pv 3)))
    (pss_one (ps_ret (pe_ifExp (pt_cmpR (K_neD (K := K) rfl (hu65 hr)) (pv 2) (pe_lst pa_nil) (nomark _)) (pe_def (c_l_flip Y) (hr.mono (by decide)) (pa_cons (pv 1) (pa_cons (pe_ix (K_ixL (K := K) rfl) (pv 2) pe_int (fun _ _ => rfl)) pa_nil))) (pv 1))))), ?_⟩
    refine ⟨_, rfl, a, _, 0, _, rfl, rfl, h1, at0, b, rfl, ⟨_, h2⟩, fun D hD => ?_⟩
    refine lcT (K := K) (items := N.lamps) (S := S) walkW (fun l => decide (N.wish l = "stuck")) (fun l => .str l) hD hS (by omega) (fun H' kp => kp.same.seq h2) ?_ ?_
    · rintro i x x1 Ha Hb Yes No hi kp hL ⟨rfl, y⟩ yes no
      obtain rfl := y x hi
      have gx : DGet Hb w (.str x) (some (.str (N.wish x))) := by
        have q := DGet.k (k := Sum.inr x) (kp.same _ _ h4)
        rw [valV_fk (List.mem_of_getElem? hi)] at q
        exact q
      refine ⟨rfl, _, rfl, a, _, 2, _, rfl, rfl, kp.same.seq h1, at2, _, rfl, w, _, rfl, gx, rfl, _, rfl, ?_⟩
      rw [str_eqb]
      by_cases h : N.wish x = "stuck"
      · exact if_yes (decide_eq_true h) ⟨_, rfl, yes _ _ .refl (by simpa using h) (.str x)⟩
      · exact if_no (decide_eq_false h) (no _ .refl (by simpa using h))
    · intro Ha ys kp hL hl hle da dp
      have hmem : ∀ x ∈ N.lamps.filter (fun l => decide (N.wish l = "stuck")), x ∈ N.lamps := fun x hx => (List.mem_filter.mp hx).1
      have hfl : (N.lamps.filter fun l => decide (N.wish l = "stuck")).length ≤ 8 := Nat.le_trans (List.length_filter_le _ _) g8
      have dw : Dp K (hid S Ha) (.ref D) (eW (N.lamps.filter fun l => decide (N.wish l = "stuck"))) := dp
      generalize (N.lamps.filter fun l => decide (N.wish l = "stuck")) = sk at da dw hmem hfl
      refine ⟨_, rfl, Nat.zero_le _, fun p np => ?_⟩
      have kp2 := kp.new (o := .lst []) np
      have sh : SeqAt.shaped (eW sk) = true := (fine_words fun x hx => (g.words x (hmem x hx)).low).shaped (n := 1) (by decide)
      refine ⟨eW sk, .list [], Dp.mono (hid_le.trans (kp_new (T := []) np).same) dw, .lst (.inl (.inl upd_same)) .nil, sh, by decide, _, rfl, ?_⟩
      have eq : PyData.eqv (eW sk) (.list []) = decide (sk = []) := eqv_words2 (b := [])
      rw [eq]
      by_cases hs : sk = []
      · exact if_no (by rw [decide_eq_true hs]; rfl) ⟨_, rfl, k _ _ (eW st) kp2 ⟨st, st, rfl, hst, rfl, hst⟩ (Dp.mono kp2.hid0 hu1)⟩
      · refine if_yes (by rw [decide_eq_false hs]; rfl) ?_
        have h0 : 0 < sk.length := List.length_pos_iff.mpr hs
        have g0 : (sk.map L2.V.str)[0]? = some (.str sk[0]) := by rw [List.getElem?_map, List.getElem?_eq_getElem h0]; rfl
        obtain ⟨da', dx, eD, hdx⟩ : ∃ da' dx, L2.V.ref D = .ref da' ∧ SqL K (hid S Ha) da' dx := ⟨D, _, rfl, (by obtain ⟨z, ez, hz⟩ := dp_words dw; cases ez; exact hz)⟩
        obtain ⟨z, ez, hz⟩ := dp_words dw
        cases ez
        refine ⟨_, rfl, _, rfl, D, _, 0, _, rfl, rfl, hid_le.seq ((kp_new (T := []) np).hid0.seq hz), atI_nat (j := 0) g0, ?_⟩
        have slen := hst.len g
        refine ⟨S, [eW st, .str sk[0]], _, kp2.live hS, .cons (Dp.mono kp2.hid0 hu1) (.cons (.str _) .nil), ⟨st, sk[0], rfl, by omega, rfl⟩, fun v' H' k' hv' => ?_⟩
        exact k _ _ _ (kp2.trans k') ⟨st, flipF st sk[0], rfl, hst, rfl, flip_set hst (hmem _ (List.getElem_mem h0))⟩ hv'
end
end K41
namespace K41
open PySem PySem.Spec PyProof.Rows L2 PySem.W
section
variable {P : Program} {w : World} {K : PySem.W.Frag} {mg : Str → Option Value} {base : Heap} {C : Addr}
def spNearL (K : PySem.W.Frag) : Sp := fun vs H Q _ => ∃ (S : List Addr) (v : L2.V) (N : Net), vs = [v] ∧ Live S H ∧ LNet K (hid S H) v N ∧ Good N ∧ ∀ (d : Addr) (H' : Hp), Kp [] H H' → NearAt K (hid S H') d N.lamps N.ties → Q (.ref d) H'
theorem tup_pairs {K : PySem.W.Frag} {H : Hp} {D : Addr} {g : Str → L2.V} : ∀ {ps : List Addr} {ws : List Str}, Paired (fun p l => p ≠ D ∧ H p = some (.tup [.str l, g l])) ps ws → Paired (fun p (kv : Key × L2.V) => SqT K H p [kV kv.1, kv.2]) ps (fk ws g)
  | _, _, .nil => .nil
  | _, _, .cons x y => .cons (.inl (.inl x.2)) (tup_pairs y)
theorem paired_mem {α β : Type} {F G : α → β → Prop} {l : List α} {m : List β} (h : Paired F l m) (g : ∀ a b, b ∈ m → F a b → G a b) : Paired G l m := by
  induction h with
  | nil => exact .nil
  | cons x y ih => exact .cons (g _ _ (List.mem_cons_self ..) x) (ih fun a b hb => g a b (List.mem_cons_of_mem _ hb))
theorem kp_free_new {H : Hp} {p T : Addr} {o : HO} (np : H p = none) (nT : upd H p o T = none) : H T = none := by
  by_cases e : T = p
  · rw [e, upd_same] at nT
    cases nT
  · rwa [upd_ne e] at nT
theorem c_l_near (Y : Env K mg C) : Def P w K mg base (Str.ofString "_law_near") 1 ["_law_net_here"] (spNearL K) := by
  refine def_mk Y.t_l_near sc_l_near bb_l_near (fun vs H Q E h => ?_) (fun f cdv A outer s H vs Q E hr h => ?_)
  · obtain ⟨S, v, N, rfl, _⟩ := h
    rfl
  · obtain ⟨S, v, N, rfl, hS, hN, gd, k⟩ := h
    have hu := hu_of hr
    have g8 := gd.few
    have g64 := gd.tfew
    have hnd := lt_nodup gd.sorted
    have hin : ∀ t ∈ N.ties, t.1 ∈ N.lamps ∧ t.2 ∈ N.lamps := fun t ht => (gd.tok t ht).2
    obtain ⟨a, b, e, w, rfl, h1, h2, h3, h4⟩ := hN.mono hid_le
    obtain ⟨ea, xs, eea, he1, hda⟩ := dp_list h3
    cases eea
    refine ⟨_, (pss_cons (ps_set (i := 1) sc_l_near.nd rfl (Or.inr rfl) (pe_callTy (K_dict (K := K) rfl rfl) (by rfl) Y.n_dict (by decide +kernel) (pa_cons (pe_lc (own := [("_law_lamp", 4)]) rfl sc_l_near.nd (K_pil (K := K) rfl (pe_ix (K_ixL (K := K) rfl) (pv 0) pe_int (fun _ _ => rfl))) (blkOk_by (own := [("_law_lamp", 4)]) (N := ["_law_net_here", "_law_found", "_law_one", "_law_other", "_law_lamp"]) (sc := defScope s_l_near) (by decide +kernel)) (fun _ _ _ _ _ => (pg_name (i := 4) sc_l_near.nd rfl (Or.inl rfl))) (fun _ _ _ _ _ => pts_nil) (fun _ _ _ _ _ => (pe_tup (pa_cons (pv 4) (pa_cons (pe_lst pa_nil) pa_nil))))) pa_nil)))
    (pss_cons (ps_for PassesOwn.never rfl (K_pil (K := K) rfl (pe_ix (K_ixL (K := K) rfl) (pv 0) pe_int (fun _ _ => rfl))) (K_pgtup (K := K) (n := 2) rfl rfl (pgs_cons (pg_name (i := 2) sc_l_near.nd rfl (Or.inl rfl)) (pgs_cons (pg_name (i := 3) sc_l_near.nd rfl (Or.inl rfl)) pgs_nil)))
    (pss_cons (ps_expr (K_bm (K := K) rfl PySem.F.plainAttrs_list PySem.F.slot_list_append PySem.F.type_list_append mt_append (pe_dget (hu_of hr) (pv 1) (pv 2) (fun _ _ => rfl)) (pa_cons (pv 3) pa_nil)))
    (pss_one (ps_expr (K_bm (K := K) rfl PySem.F.plainAttrs_list PySem.F.slot_list_append PySem.F.type_list_append mt_append (pe_dget (hu_of hr) (pv 1) (pv 3) (fun _ _ => rfl)) (pa_cons (pv 2) pa_nil))))))
    (pss_one (ps_ret (pe_callTy (K_dict (K := K) rfl rfl) (by rfl) Y.n_dict (by decide +kernel) (pa_cons (pe_lc (own := [("_law_lamp", 4)]) rfl sc_l_near.nd (K_pil (K := K) rfl (pe_ix (K_ixL (K := K) rfl) (pv 0) pe_int (fun _ _ => rfl))) (blkOk_by (own := [("_law_lamp", 4)]) (N := ["_law_net_here", "_law_found", "_law_one", "_law_other", "_law_lamp"]) (sc := defScope s_l_near) (by decide +kernel)) (fun _ _ _ _ _ => (pg_name (i := 4) sc_l_near.nd rfl (Or.inl rfl))) (fun _ _ _ _ _ => pts_nil) (fun _ _ _ _ _ => (pe_tup (pa_cons (pv 4) (pa_cons (pe_callB (K_sort (K := K) rfl (hu100 hr)) (by rfl) Y.n_sorted (by decide +kernel) (pa_cons (pe_dget (hu_of hr) (pv 1) (pv 4) (fun _ _ => rfl)) pa_nil)) pa_nil))))) pa_nil)))))), ?_⟩
    refine ⟨_, rfl, a, _, 0, _, rfl, rfl, h1, at0, b, rfl, ⟨_, h2⟩, fun L hL => ?_⟩
    generalize N.lamps = ws at h2 g8 hnd hin k ⊢
    generalize N.ties = ts at hda g64 hin k ⊢
    refine lc_it walkW (fun i H' => ∃ (na : Str → Addr) (ps : List Addr), Kp [] H H' ∧ H' L = some (.lst (ps.map L2.V.ref)) ∧ ps.length = i ∧ Piles H H' (ws.take i) na (fun _ => []) ∧ (∀ l ∈ ws.take i, na l ≠ L) ∧ Paired (fun p l => p ≠ L ∧ H' p = some (.tup [.str l, .ref (na l)])) ps (ws.take i))
      ⟨fun _ => 0, [], kp_new hL, upd_same, rfl, ⟨by simp, by simp, by simp⟩, by simp, .nil⟩ (fun i H' _ ⟨_, _, kp, _⟩ => kp.same.seq h2) ?_ ?_
    · rintro i x H0 H1 hi ⟨na, ps, kp, hp2, hpl, hp, hnl, hpp⟩ ⟨rfl, y⟩
      have hg := List.getElem?_eq_getElem hi
      obtain rfl := y _ hg
      have hni := notin_take hnd hg
      refine ⟨rfl, _, rfl, Nat.zero_le _, fun p np => ⟨by show 2 ≤ sizeLine; decide, fun T nT => ?_⟩⟩
      have epL : L ≠ p := ne_of_none hp2 np
      have hp2' : (upd H1 p (.lst [])) L = some (.lst (ps.map L2.V.ref)) := by rw [upd_ne epL]; exact hp2
      have eTL : L ≠ T := ne_of_none hp2' nT
      have epT : p ≠ T := ne_of_none upd_same nT
      have pil := hp.snoc hni np (kp.free np)
      refine ⟨_, by rw [upd_ne eTL]; exact hp2', by rw [List.length_map, sizeLine_eq]; omega, fun m => if m = ws[i] then p else na m, ps ++ [T], ((kp.put (kp.free np)).put (kp.free (kp_free_new np nT))).put hL, by rw [upd_same, List.map_append]; rfl, by rw [List.length_append, hpl]; rfl, ?_, ?_, ?_⟩
      · rw [take_snoc' hg]
        refine (pil.upd fun l hl => ne_of_none (pil.each l hl) nT).upd fun l hl => ?_
        rcases List.mem_append.mp hl with hl | hl
        · show (if l = ws[i] then p else na l) ≠ L
          rw [if_neg fun e : l = ws[i] => hni (e ▸ hl)]
          exact hnl l hl
        · show (if l = ws[i] then p else na l) ≠ L
          rw [if_pos (List.mem_singleton.mp hl)]
          exact epL.symm
      · intro l hl
        rw [take_snoc' hg] at hl
        rcases List.mem_append.mp hl with hl | hl
        · show (if l = ws[i] then p else na l) ≠ L
          rw [if_neg fun e : l = ws[i] => hni (e ▸ hl)]
          exact hnl l hl
        · show (if l = ws[i] then p else na l) ≠ L
          rw [if_pos (List.mem_singleton.mp hl)]
          exact epL.symm
      · rw [take_snoc' hg]
        refine Paired.snoc ?_ ⟨eTL.symm, by
          show upd _ _ _ T = some (.tup [.str ws[i], .ref (if ws[i] = ws[i] then p else na ws[i])])
          rw [upd_ne eTL.symm, upd_same, if_pos rfl]⟩
        refine paired_mem hpp fun q l hl hq => ⟨hq.1, ?_⟩
        show upd _ _ _ q = some (.tup [.str l, .ref (if l = ws[i] then p else na l)])
        rw [if_neg fun e : l = ws[i] => hni (e ▸ hl), upd_ne hq.1, upd_ne (ne_of_none (by rw [upd_ne (ne_of_none hq.2 np)]; exact hq.2) nT), upd_ne (ne_of_none hq.2 np)]
        exact hq.2
    rintro Ha ⟨na, ps, kpa, hp2, hpl, hpa, hnl, hpp⟩
    rw [List.take_length] at hpa hpp
    refine ⟨L, ps, _, rfl, .inl (.inl hp2), tup_pairs hpp, fun D nD => ?_⟩
    rw [mergeK_fk hnd]
    have kp := kpa.new (o := .dK (fk ws fun l => .ref (na l))) nD
    have hd : (upd Ha D (.dK (fk ws fun l => .ref (na l)))) D = some (.dK (fk ws fun l => .ref (na l))) := upd_same
    have hp := hpa.kp (kp_new (o := .dK (fk ws fun l => .ref (na l))) nD)
    have hD : H D = none := kpa.free nD
    generalize (upd Ha D (.dK (fk ws fun l => .ref (na l)))) = H1 at kp hd hp ⊢
    have hq : ∀ {H' : Hp} {cs : Str → List Str}, H' D = some (.dK (fk ws fun l => .ref (na l))) → Piles H H' ws na cs → ∀ l ∈ ws, na l ≠ D := fun h1 h2 l hl e => by
      have q := h2.each l hl
      rw [e, h1] at q
      cases q
    refine ⟨_, rfl, a, _, 1, _, rfl, rfl, kp.same.seq h1, at1, e, rfl, ⟨_, kp.same.seq he1⟩, ?_⟩
    refine for_it (walkD hda) (fun i σ H' => ∃ o1 o2 : Option L2.V, σ = [some (.ref a), some (.ref D), o1, o2, none] ∧ Kp [] H H' ∧ H' D = some (.dK (fk ws fun l => .ref (na l))) ∧ Piles H H' ws na (nearU (ts.take i)))
      ⟨none, none, rfl, kp, hd, hp⟩ (fun i σ H' _ ⟨_, _, _, kp, _⟩ => kp.same.seq he1) ?_ ?_
    · rintro i x σ H2 H3 hi ⟨o1, o2, rfl, kp2, hd2, hp2⟩ ⟨rfl, y⟩
      have hg := List.getElem?_eq_getElem hi
      obtain ⟨q, rfl, hqt⟩ := dp_tie (y _ hg)
      obtain ⟨m1, m2⟩ := hin _ (List.getElem_mem hi)
      have hqt3 : SqT K H3 q _ := Same.tup kp2.same hqt
      have g1 : ∀ {H' : Hp} {l : Str}, l ∈ ws → H' D = some (.dK (fk ws fun l => .ref (na l))) → DGet H' D (.str l) (some (.ref (na l))) := fun {H' l} hl h => by
        have q := DGet.k (k := Sum.inr l) h
        rw [valV_fk hl] at q
        exact q
      have lim : ∀ l, (nearU (ts.take i) l).length ≤ 2000 := fun l => by
        have q := nearU_len (ts.take i) l
        rw [List.length_take] at q
        omega
      refine ⟨q, _, rfl, hqt3, rfl, _, _, rfl, _, _, rfl, rfl, ?_⟩
      refine ⟨_, rfl, _, rfl, D, _, rfl, g1 m1 hd2, .inl ⟨rfl, _, .inl (.inl (hp2.each _ m1))⟩, _, rfl, _, _, _, rfl, rfl, hp2.each _ m1, by rw [List.length_map, sizeLine_eq]; have := lim ts[i].1; omega, ?_⟩
      have hp3 := hp2.add (x := ts[i].2) m1
      have hd3 : (upd H3 (na ts[i].1) (.lst ((nearU (ts.take i) ts[i].1).map L2.V.str ++ [.str ts[i].2]))) D = some (.dK (fk ws fun l => .ref (na l))) := by
        rw [upd_ne (hq hd2 hp2 _ m1).symm]
        exact hd2
      have kp3 : Kp [] H (upd H3 (na ts[i].1) (.lst ((nearU (ts.take i) ts[i].1).map L2.V.str ++ [.str ts[i].2]))) := kp2.put (hp2.new _ m1)
      have e2 := hp3.each _ m2
      refine ⟨_, rfl, _, rfl, D, _, rfl, g1 m2 hd3, .inl ⟨rfl, _, .inl (.inl e2)⟩, _, rfl, _, _, _, rfl, rfl, e2, by
        rw [List.length_map, sizeLine_eq, List.length_append]
        have h1 : (if ts[i].1 = ts[i].2 then [ts[i].2] else []).length ≤ 1 := by split <;> simp
        have := lim ts[i].2
        omega, ?_⟩
      refine ⟨_, _, rfl, kp3.put (hp2.new _ m2), ?_, ?_⟩
      · rw [upd_ne (hq hd3 hp3 _ m2).symm]
        exact hd3
      · have hp4 := hp3.add (x := ts[i].1) m2
        have e : (fun m => (nearU (ts.take i) m ++ if ts[i].1 = m then [ts[i].2] else []) ++ if ts[i].2 = m then [ts[i].1] else []) = nearU (ts.take (i + 1)) := by
          funext m
          rw [take_snoc' hg, nearU_snoc]
        rw [← e]
        exact hp4
    · rintro σ H2 ⟨o1, o2, rfl, kp2, hd2, hp2⟩
      rw [List.take_length] at hp2
      refine ⟨_, rfl, a, _, 0, _, rfl, rfl, kp2.same.seq h1, at0, b, rfl, ⟨_, kp2.same.seq h2⟩, fun L2' hL2 => ?_⟩
      refine lc_it walkW (fun i H' => ∃ (nb : Str → Addr) (qs : List Addr), Kp [] H2 H' ∧ H' L2' = some (.lst (qs.map L2.V.ref)) ∧ qs.length = i ∧ (∀ l ∈ ws.take i, H2 (nb l) = none ∧ nb l ≠ L2' ∧ H' (nb l) = some (.lst ((nearF ts l).map L2.V.str))) ∧ Paired (fun p l => p ≠ L2' ∧ H' p = some (.tup [.str l, .ref (nb l)])) qs (ws.take i))
        ⟨fun _ => 0, [], kp_new hL2, upd_same, rfl, by simp, .nil⟩ (fun i H' _ ⟨_, _, kp, _⟩ => kp.same.seq (kp2.same.seq h2)) ?_ ?_
      · rintro i x H4 H5 hi ⟨nb, qs, kp4, hd4, hql, hp4, hpp4⟩ ⟨rfl, y⟩
        have hg := List.getElem?_eq_getElem hi
        obtain rfl := y _ hg
        have hni := notin_take hnd hg
        have mi := List.getElem_mem hi
        have g5 : DGet H5 D (.str ws[i]) (some (.ref (na ws[i]))) := by
          have q := DGet.k (k := Sum.inr ws[i]) (kp4.same _ _ hd2)
          rw [valV_fk mi] at q
          exact q
        refine ⟨rfl, _, rfl, _, rfl, _, rfl, D, _, rfl, g5, ?_⟩
        refine sort_words (.inl (.inl (kp4.same _ _ (hp2.each _ mi)))) fun p np => ⟨by show 2 ≤ sizeLine; decide, fun T nT => ?_⟩
        have epL : L2' ≠ p := ne_of_none hd4 np
        have hd4' : (upd H5 p (.lst ((srt PyData.str (nearU ts ws[i])).map L2.V.str))) L2' = some (.lst (qs.map L2.V.ref)) := by rw [upd_ne epL]; exact hd4
        have eTL : L2' ≠ T := ne_of_none hd4' nT
        have epT : p ≠ T := ne_of_none upd_same nT
        refine ⟨_, by rw [upd_ne eTL]; exact hd4', by rw [List.length_map, sizeLine_eq]; omega, fun m => if m = ws[i] then p else nb m, qs ++ [T], ((kp4.put (kp4.free np)).put (kp4.free (kp_free_new np nT))).put hL2, by rw [upd_same, List.map_append]; rfl, by rw [List.length_append, hql]; rfl, fun l hl => ?_, ?_⟩
        · rw [take_snoc' hg] at hl
          rcases List.mem_append.mp hl with hl | hl
          · obtain ⟨n1, n2, n3⟩ := hp4 l hl
            show H2 (if l = ws[i] then p else nb l) = none ∧ (if l = ws[i] then p else nb l) ≠ L2' ∧ upd _ _ _ (if l = ws[i] then p else nb l) = _
            rw [if_neg fun e : l = ws[i] => hni (e ▸ hl)]
            refine ⟨n1, n2, ?_⟩
            rw [upd_ne n2, upd_ne (ne_of_none (by rw [upd_ne (ne_of_none n3 np)]; exact n3) nT), upd_ne (ne_of_none n3 np)]
            exact n3
          · rw [List.mem_singleton.mp hl]
            show H2 (if ws[i] = ws[i] then p else nb ws[i]) = none ∧ (if ws[i] = ws[i] then p else nb ws[i]) ≠ L2' ∧ upd _ _ _ (if ws[i] = ws[i] then p else nb ws[i]) = _
            rw [if_pos rfl]
            refine ⟨kp4.free np, epL.symm, ?_⟩
            rw [upd_ne epL.symm, upd_ne epT, upd_same]
            rfl
        · rw [take_snoc' hg]
          refine Paired.snoc ?_ ⟨eTL.symm, by
            show upd _ _ _ T = some (.tup [.str ws[i], .ref (if ws[i] = ws[i] then p else nb ws[i])])
            rw [upd_ne eTL.symm, upd_same, if_pos rfl]⟩
          refine paired_mem hpp4 fun q l hl hq => ⟨hq.1, ?_⟩
          show upd _ _ _ q = some (.tup [.str l, .ref (if l = ws[i] then p else nb l)])
          rw [if_neg fun e : l = ws[i] => hni (e ▸ hl), upd_ne hq.1, upd_ne (ne_of_none (by rw [upd_ne (ne_of_none hq.2 np)]; exact hq.2) nT), upd_ne (ne_of_none hq.2 np)]
          exact hq.2
      · rintro H3 ⟨nb, qs, kp4, hd4, hql, hp4, hpp4⟩
        rw [List.take_length] at hp4 hpp4
        refine ⟨L2', qs, _, rfl, .inl (.inl hd4), tup_pairs hpp4, fun dd ndd => ?_⟩
        rw [mergeK_fk hnd]
        have kf := (kp2.trans kp4).new (o := .dK (fk ws fun l => .ref (nb l))) ndd
        refine k dd _ kf ⟨nb, hid_at upd_same (not_mem_of hS ((kp2.trans kp4).free ndd)), fun l hl => ?_⟩
        obtain ⟨n1, n2, n3⟩ := hp4 l hl
        exact .inl (.inl (hid_at ((kp_new (T := []) (o := .dK (fk ws fun l => .ref (nb l))) ndd).same _ _ n3) (not_mem_of hS (kp2.free n1))))
end
end K41
namespace K41
open PySem PySem.Spec PyProof.Rows L2 PySem.W
theorem upd_comm {H : Hp} {a b : Addr} {o o2 : HO} (h : a ≠ b) : upd (upd H a o) b o2 = upd (upd H b o2) a o := by
  funext x
  by_cases e : x = b
  · subst e
    rw [upd_same, upd_ne h.symm, upd_same]
  · by_cases e2 : x = a
    · subst e2
      rw [upd_ne e, upd_same, upd_same]
    · rw [upd_ne e, upd_ne e2, upd_ne e2, upd_ne e]
def addR (N : Net) (here : List Str) (acc : Fd × List (List Str)) (l : Str) : Fd × List (List Str) := if readyF N here l = true then add1 here acc l else acc
theorem addR_all (N : Net) (s : List Str) (acc : Fd × List (List Str)) : (freeF N).foldl (addR N s) acc = addH N acc s := by
  unfold addH readyL
  rw [List.foldl_filter]
  rfl
section
variable {P : Program} {w : World} {K : PySem.W.Frag} {mg : Str → Option Value} {base : Heap} {C : Addr}
def spReached (K : PySem.W.Frag) : Sp := fun vs H Q _ => ∃ (S : List Addr) (v u : L2.V) (N : Net) (s : List Str), vs = [v, u] ∧ Live S H ∧ LNet K (hid S H) v N ∧ Good N ∧ Dp K (hid S H) u (eW s) ∧ IsSet N s ∧
  ∀ (d : Addr) (H' : Hp) (g : Fd), Kp [] H H' → H d = none → H' d = some (.dT (eF g)) → Layers N s g → KeysOk N g → Q (.ref d) H'
theorem c_l_reached (Y : Env K mg C) : Def P w K mg base (Str.ofString "_law_reached") 2 ["_law_net_here", "_law_setting_here"] (spReached K) := by
  refine def_mk Y.t_l_reached sc_l_reached bb_l_reached (fun vs H Q E h => ?_) (fun f cdv A outer s H vs Q E hr h => ?_)
  · obtain ⟨S, v, u, N, s, rfl, _⟩ := h
    rfl
  · obtain ⟨S, v, u, N, st, rfl, hS0, hN0, g, h10, hs, k0⟩ := h
    have hu := hu_of hr
    obtain ⟨a, rfl, hl00⟩ := dp_words h10
    refine ⟨_, (pss_cons (ps_par3 (i := 3) (j := 4) (l := 5) rfl sc_l_reached.nd rfl rfl rfl (by decide) (by decide) (by decide) rfl rfl rfl (pa_cons (pe_def (c_l_near Y) (hr.mono (by decide)) (pa_cons (pv 0) pa_nil)) (pa_cons (pe_def (c_l_free Y) (hr.mono (by decide)) (pa_cons (pv 0) pa_nil)) (pa_cons (pe_disp1 (hu_of hr) (pe_callTy (K_tuple (K := K) rfl) (by rfl) Y.n_tuple (by decide +kernel) (pa_cons (pv 1) pa_nil)) pe_int) pa_nil))) rfl)
    (pss_cons (ps_set (i := 2) sc_l_reached.nd rfl (Or.inl rfl) (pe_lst (pa_cons (pe_callTy (K_list (K := K) rfl) (by rfl) Y.n_list (by decide +kernel) (pa_cons (pv 1) pa_nil)) pa_nil)))
    (pss_cons (ps_while PassesOwn.never (pt_cmpR (K_neD (K := K) rfl (hu65 hr)) (pv 2) (pe_lst pa_nil) (nomark _))
    (pss_cons (ps_set (i := 6) sc_l_reached.nd rfl (Or.inl rfl) (pe_lst pa_nil))
    (pss_cons (ps_for PassesOwn.never rfl (K_pil (K := K) rfl (pv 2)) (pg_name (i := 7) sc_l_reached.nd rfl (Or.inl rfl))
    (pss_one (ps_for PassesOwn.never rfl (K_pil (K := K) rfl (pv 4)) (pg_name (i := 8) sc_l_reached.nd rfl (Or.inl rfl))
    (pss_one (ps_if (pt_val (pe_def (c_l_is_ready Y) (hr.mono (by decide)) (pa_cons (pv 0) (pa_cons (pv 3) (pa_cons (pv 7) (pa_cons (pv 8) pa_nil)))))) (pss_cons (ps_set (i := 9) sc_l_reached.nd rfl (Or.inl rfl) (pe_callTy (K_tuple (K := K) rfl) (by rfl) Y.n_tuple (by decide +kernel) (pa_cons (pe_def (c_l_flip Y) (hr.mono (by decide)) (pa_cons (pv 7) (pa_cons (pv 8) pa_nil))) pa_nil)))
    (pss_one (ps_if (pt_cmp (pc_dnotin (hu_of hr) (pv 9) (pv 5))) (pss_cons (ps_dput (hu_of hr) (pv 5) (pv 9) (pe_op op_add (pe_dget (hu_of hr) (pv 5) (pe_callTy (K_tuple (K := K) rfl) (by rfl) Y.n_tuple (by decide +kernel) (pa_cons (pv 7) pa_nil)) (fun _ _ => rfl)) pe_int) rfl)
    (pss_one (ps_expr (K_bm (K := K) rfl PySem.F.plainAttrs_list PySem.F.slot_list_append PySem.F.type_list_append mt_append (pv 6) (pa_cons (pe_callTy (K_list (K := K) rfl) (by rfl) Y.n_list (by decide +kernel) (pa_cons (pv 9) pa_nil)) pa_nil))))) pss_nil))) pss_nil)))))
    (pss_one (ps_set (i := 2) sc_l_reached.nd rfl (Or.inl rfl) (pv 6))))))
    (pss_one (ps_ret (pv 5)))))), ?_⟩
    refine ⟨_, rfl, S, v, N, rfl, hS0, hN0, g, fun r G1 k1 hr1 => ?_⟩
    refine ⟨_, rfl, S, v, [], N, [], rfl, k1.live hS0, hN0.mono k1.hid0, g, .nil, ⟨_, rfl, rfl⟩, fun v2 G d2 k2 hd2 hv2 => ?_⟩
    obtain ⟨_, rfl⟩ := hd2
    obtain ⟨fl, rfl, hfl⟩ := dp_words hv2
    have kG := k1.trans k2
    have hS := kG.live hS0
    have hN := hN0.mono kG.hid0
    have hrN := hr1.mono k2.hid0
    have hl := kG.hid0.seq hl00
    have hl0 : SqL K G a _ := Same.seq hid_le hl
    have k : ∀ (d : Addr) (H' : Hp) (g : Fd), Kp [] G H' → G d = none → H' d = some (.dT (eF g)) → Layers N st g → KeysOk N g → Q (.ref d) H' := fun d H' g a b => k0 d H' g (kG.trans a) (kG.free b)
    clear k0 hr1 hv2 hl00 h10 hN0
    intro D nD
    refine ⟨_, rfl, a, _, rfl, .inl ⟨(same_new nD).seq hl0, fun q nq => ?_⟩⟩
    have eDq : D ≠ q := ne_of_none upd_same nq
    refine ⟨by rw [upd_ne eDq, upd_same], q, st.map Sum.inr, rfl, by rw [upd_same, kV_inr], ?_⟩
    have kA : Kp [] G (upd (upd (upd G D (.dT [])) q (.tup (st.map L2.V.str))) D (.dT [(st.map Sum.inr, .int 0)])) := ((kp_new nD).new nq).put nD
    have dA : (upd (upd (upd G D (.dT [])) q (.tup (st.map L2.V.str))) D (.dT [(st.map Sum.inr, .int 0)])) D = some (.dT (eF [(st, 0)])) := upd_same
    generalize (upd (upd (upd G D (.dT [])) q (.tup (st.map L2.V.str))) D (.dT [(st.map Sum.inr, .int 0)])) = HA at kA dA ⊢
    refine ⟨_, _, _, rfl, ?_⟩
    refine ⟨_, rfl, a, _, rfl, .inl (kA.same.seq hl0), fun l1 n1 => ⟨by show 1 ≤ sizeLine; decide, fun wl nw => ?_⟩⟩
    have e1w : l1 ≠ wl := ne_of_none upd_same nw
    have kB : Kp [] G (upd (upd HA l1 (.lst (st.map L2.V.str))) wl (.lst [.ref l1])) := (kA.new n1).new nw
    have dB : (upd (upd HA l1 (.lst (st.map L2.V.str))) wl (.lst [.ref l1])) D = some (.dT (eF [(st, 0)])) := ((kp_new (T := []) n1).new nw).same _ _ dA
    have wB : (upd (upd HA l1 (.lst (st.map L2.V.str))) wl (.lst [.ref l1])) wl = some (.lst [.ref l1]) := upd_same
    have lB : (upd (upd HA l1 (.lst (st.map L2.V.str))) wl (.lst [.ref l1])) l1 = some (.lst (st.map L2.V.str)) := by rw [upd_ne e1w, upd_same]
    have f1 := kA.free n1
    have fw := (kA.new n1).free nw
    generalize (upd (upd HA l1 (.lst (st.map L2.V.str))) wl (.lst [.ref l1])) = HB at kB dB wB lB ⊢
    have hDS : D ∉ S := not_mem_of hS nD
    have ni : ∀ {x : Addr} {o : HO}, G x = none → HB x = some o → x ≠ D → hid (D :: S) HB x = some o := fun f e ne => hid_at e (by
      intro z
      rcases List.mem_cons.mp z with z | z
      · exact ne z
      · exact not_mem_of hS f z)
    have neD : ∀ {x : Addr} {xs : List L2.V}, HB x = some (.lst xs) → x ≠ D := fun e z => by
      rw [z, dB] at e
      cases e
    have mid0 : Mid K N S G st D wl [(st, 0)] [st] HB := ⟨kB, dB, ⟨[.ref l1], .inl (.inl (ni fw wB (neD wB))), .cons (words_dp (.inl (.inl (ni f1 lB (neD lB))))) .nil⟩, ⟨List.pairwise_singleton _ _, fun k hk => by rw [List.mem_singleton.mp hk]; exact hs, fun p hp => by rw [List.mem_singleton.mp hp]; show 0 < 1; decide⟩, fun k hk => hk, fun g h => h⟩
    refine ⟨fun m σ Hc => ∃ (f : Fd) (wt : List (List Str)) (wl : Addr) (o6 o7 o8 o9 : Option L2.V), σ = [some v, some (.ref a), some (.ref wl), some (.ref r), some (.ref fl), some (.ref D), o6, o7, o8, o9] ∧ m = 2 * (256 - f.length) + (if wt = [] then 0 else 1) ∧ Mid K N S G st D wl f wt Hc,
      ⟨_, [(st, 0)], [st], wl, none, none, none, none, rfl, rfl, mid0⟩, ?_⟩
    rintro m σ Hc ⟨f, wt, wl, o6, o7, o8, o9, rfl, rfl, M⟩
    obtain ⟨xs, hx1, hx2⟩ := M.wt
    refine ⟨_, rfl, Nat.zero_le _, fun p np => ?_⟩
    have kC : Kp [] Hc (upd Hc p (.lst [])) := kp_new np
    have shw : SeqAt.shaped (.list (wt.map eW)) = true := (fine_list fun x hx => fine_words (g.lows (M.ok.sets x (M.sub x hx)))).shaped (n := 2) (by decide)
    refine ⟨.list (wt.map eW), .list [], Dp.mono (hid_le.trans kC.same) (.lst hx1 hx2), .lst (.inl (.inl upd_same)) .nil, shw, by decide, _, rfl, ?_⟩
    rw [eqv_nil]
    by_cases hw : wt = []
    · subst hw
      refine if_no (by rw [decide_eq_true rfl]; rfl) ?_
      exact ⟨_, rfl, k D _ f (M.bas.trans kC) nD (kC.same _ _ M.fd) (M.run f (.done f)) M.ok⟩
    refine if_yes (by rw [decide_eq_false hw]; rfl) ?_
    rw [if_neg hw]
    refine ⟨_, fun σ' H' h => h, ?_⟩
    refine ⟨Nat.zero_le _, fun lt nlt => ?_⟩
    have kL : Kp [] Hc (upd (upd Hc p (.lst [])) lt (.lst [])) := kC.new nlt
    have gl : G lt = none := M.bas.free (kC.free nlt)
    have sta0 : Sta K N S G (upd (upd Hc p (.lst [])) lt (.lst [])) D lt f (f, []) (upd (upd Hc p (.lst [])) lt (.lst [])) := ⟨M.bas.trans kL, .refl, kL.same _ _ M.fd, ⟨[], upd_same, .nil⟩, acc0 M.ok⟩
    have hxl : Same (hid (D :: S) Hc) (hid (lt :: D :: S) (upd (upd Hc p (.lst [])) lt (.lst []))) := by
      rw [← hid_cons (S := D :: S) (kC.free nlt)]
      exact kL.hid0
    generalize (upd (upd Hc p (.lst [])) lt (.lst [])) = Hl at kL sta0 hxl ⊢
    have tin : ∀ b ∈ [D, lt], b ∈ lt :: D :: S := fun b hb => by
      rcases List.mem_cons.mp hb with rfl | hb
      · exact List.mem_cons_of_mem _ (List.mem_cons_self ..)
      · rw [List.mem_singleton.mp hb]
        exact List.mem_cons_self ..
    refine ⟨_, rfl, wl, rfl, ⟨_, hid_le.seq (hxl.seq hx1)⟩, ?_⟩
    refine for_it (walkD hx2) (fun i σ H' => ∃ o7 o8 o9 : Option L2.V, σ = [some v, some (.ref a), some (.ref wl), some (.ref r), some (.ref fl), some (.ref D), some (.ref lt), o7, o8, o9] ∧ Sta K N S G Hl D lt f ((wt.take i).foldl (addH N) (f, [])) H')
      ⟨_, _, _, rfl, sta0⟩ (fun i σ H' _ ⟨_, _, _, _, s⟩ => hid_le.seq ((s.lev.hid tin).seq (hxl.seq hx1))) ?_ ?_
    · rintro i x σ H2 H3 hi ⟨o7, o8, o9, rfl, sta⟩ ⟨rfl, y⟩
      have hg := List.getElem?_eq_getElem hi
      have hh0 := y _ hg
      have hk0 : wt[i] ∈ keysF f := M.sub _ (List.getElem_mem hi)
      have hset : IsSet N wt[i] := M.ok.sets _ hk0
      have e0 : (wt.take (i + 1)).foldl (addH N) (f, []) = addH N ((wt.take i).foldl (addH N) (f, [])) wt[i] := foldl_take hg
      rw [← addR_all] at e0
      generalize wt[i] = hw0 at hh0 hk0 hset e0 ⊢
      generalize (wt.take i).foldl (addH N) (f, []) = acc0 at sta e0 ⊢
      refine ⟨_, rfl, fl, rfl, ⟨_, hid_le.seq ((sta.facts nD gl).seq hfl)⟩, ?_⟩
      refine for_it (walkW (ws := freeF N)) (fun j σ H' => ∃ o8 o9 : Option L2.V, σ = [some v, some (.ref a), some (.ref wl), some (.ref r), some (.ref fl), some (.ref D), some (.ref lt), some x, o8, o9] ∧ Sta K N S G Hl D lt f (((freeF N).take j).foldl (addR N hw0) acc0) H')
        ⟨_, _, rfl, sta⟩ (fun j σ H' _ ⟨_, _, _, s⟩ => hid_le.seq ((s.facts nD gl).seq hfl)) ?_ ?_
      · rintro j y σ H5 H6 hj ⟨o8, o9, rfl, sta5⟩ ⟨rfl, y2⟩
        have hg2 := List.getElem?_eq_getElem hj
        obtain rfl := y2 _ hg2
        have hlm : (freeF N)[j] ∈ N.lamps := (List.mem_filter.mp (List.getElem_mem hj)).1
        have eacc : ((freeF N).take (j + 1)).foldl (addR N hw0) acc0 = addR N hw0 (((freeF N).take j).foldl (addR N hw0) acc0) (freeF N)[j] := foldl_take hg2
        generalize (freeF N)[j] = l at hg2 hlm eacc ⊢
        generalize ((freeF N).take j).foldl (addR N hw0) acc0 = acc at sta5 eacc ⊢
        have hh : ∀ {Hx : Hp}, Sta K N S G Hl D lt f acc Hx → Dp K (hid (lt :: D :: S) Hx) x (eW hw0) := fun s => Dp.mono (hxl.trans (s.lev.hid tin)) hh0
        have mN := sta5.facts nD gl
        refine ⟨_, rfl, _, rfl, _, rfl, _, rfl, lt :: D :: S, v, x, r, N, hw0, l, rfl, sta5.live hS, hN.mono mN, g, hrN.mono mN, hh sta5, hlm, fun H7 k7 => ?_⟩
        have sta7 := sta5.kp k7
        by_cases hrd : readyF N hw0 l = true
        · rw [addR, if_pos hrd] at eacc
          rw [hrd]
          refine ⟨true, rfl, if_yes rfl ?_⟩
          refine ⟨_, rfl, _, rfl, lt :: D :: S, [eW hw0, .str l], _, sta7.live hS, .cons (hh sta7) (.cons (.str l) .nil), ⟨hw0, l, rfl, by have := hset.len g; omega, rfl⟩, fun tv H8 k8 hv8 => ?_⟩
          obtain ⟨ta, rfl, hta⟩ := dp_words hv8
          have sta8 := sta7.kp k8
          refine ⟨ta, _, rfl, .inl ⟨hid_le.seq hta, fun q nq => ?_⟩⟩
          have sta9 := sta8.kp (kp_new (o := .tup ((flipF hw0 l).map L2.V.str)) nq)
          have hq9 : (upd H8 q (.tup ((flipF hw0 l).map L2.V.str))) q = some (.tup ((flipF hw0 l).map L2.V.str)) := upd_same
          generalize (upd H8 q (.tup ((flipF hw0 l).map L2.V.str))) = H9 at sta9 hq9 ⊢
          have hkB := (sta5.ok.grow _ hk0)
          refine ⟨_, rfl, _, rfl, D, _, rfl, dget_tup sta9.fd hq9, _, rfl, ?_⟩
          by_cases hm : flipF hw0 l ∈ keysF acc.1
          · rw [if_pos hm]
            refine if_no rfl ?_
            refine ⟨_, _, rfl, ?_⟩
            rw [eacc]
            unfold add1
            rw [if_pos hm]
            exact sta9
          · rw [if_neg hm]
            refine if_yes rfl ?_
            obtain ⟨xa, rfl, hxa⟩ := dp_words (hh sta9)
            refine ⟨_, rfl, _, rfl, xa, _, rfl, .inl ⟨hid_le.seq hxa, fun q2 nq2 => ?_⟩⟩
            have sta10 := sta9.kp (kp_new (o := .tup (hw0.map L2.V.str)) nq2)
            have g9 := dget_tup sta10.fd (k := hw0) upd_same
            rw [if_pos hkB] at g9
            refine ⟨D, _, rfl, g9, _, _, rfl, rfl, ?_⟩
            have hq10 := (kp_new (T := []) (o := .tup (hw0.map L2.V.str)) nq2).same _ _ hq9
            generalize (upd H9 q2 (.tup (hw0.map L2.V.str))) = H10 at sta10 hq10 g9 ⊢
            have few := sta10.ok.ok.few g
            have put := dput_tup (n := lkF acc.1 hw0 + 1) sta10.fd (k := flipF hw0 l) hq10 hm (by omega)
            refine ⟨_, rfl, _, rfl, D, _, rfl, put, ?_⟩
            obtain ⟨ys, hy1, hy2⟩ := sta10.lat
            have hqD : q ≠ D := fun e => by
              rw [e, sta10.fd] at hq10
              cases hq10
            have hy3 : (upd H10 D (.dT (eF (acc.1 ++ [(flipF hw0 l, lkF acc.1 hw0 + 1)])))) lt = some (.lst ys) := by rw [upd_ne sta10.ne.symm]; exact hy1
            have hq11 : (upd H10 D (.dT (eF (acc.1 ++ [(flipF hw0 l, lkF acc.1 hw0 + 1)])))) q = some (.tup ((flipF hw0 l).map L2.V.str)) := by rw [upd_ne hqD]; exact hq10
            have ylen : ys.length ≤ 256 := by
              have e1 := da_len hy2
              have e2 := sta10.ok.len
              omega
            refine ⟨_, rfl, .inl ⟨rfl, _, .inl (.inl hy3)⟩, _, rfl, q, _, rfl, .inr (.inl (.inl hq11)), fun pp npp => ?_⟩
            have hne : D ≠ pp := ne_of_none upd_same npp
            have npp0 : H10 pp = none := by rwa [upd_ne hne.symm] at npp
            have hlp : lt ≠ pp := ne_of_none hy1 npp0
            rw [upd_comm hne]
            have sta11 := sta10.kp (kp_new (o := .lst ((flipF hw0 l).map L2.V.str)) npp0)
            refine ⟨lt, ys, _, rfl, rfl, by rw [upd_ne sta10.ne.symm, upd_ne hlp]; exact hy1, by rw [sizeLine_eq]; omega, ?_⟩
            refine ⟨_, _, rfl, ?_⟩
            have e3 : ((freeF N).take (j + 1)).foldl (addR N hw0) acc0 = (acc.1 ++ [(flipF hw0 l, lkF acc.1 hw0 + 1)], acc.2 ++ [flipF hw0 l]) := by
              rw [eacc]
              unfold add1
              rw [if_neg hm]
            have nin : pp ∉ lt :: D :: S := not_mem_of (sta10.live hS) npp0
            exact sta11.put nD gl (by rw [upd_ne hlp]; exact hy1) (DpAll.mono (kp_new (T := []) npp0).hid0 hy2) (words_dp (.inl (.inl (hid_at upd_same nin)))) e3 (by rw [eacc]; exact sta11.ok.add1 hkB hlm)
        · have hrd2 : readyF N hw0 l = false := by simpa using hrd
          rw [addR, if_neg hrd] at eacc
          rw [hrd2]
          refine ⟨false, rfl, if_no rfl ⟨_, _, rfl, ?_⟩⟩
          rw [eacc]
          exact sta7
      · rintro σ H5 ⟨o8, o9, rfl, sta5⟩
        rw [List.take_length] at sta5
        refine ⟨_, _, _, rfl, ?_⟩
        rw [e0]
        exact sta5
    · rintro σ H2 ⟨o7, o8, o9, rfl, sta⟩
      rw [List.take_length] at sta
      refine ⟨_, rfl, ?_⟩
      obtain ⟨ys, hy1, hy2⟩ := sta.lat
      have hlev : wt.foldl (addH N) (f, []) = levelF N f wt := rfl
      rw [hlev] at sta hy2
      have hlen := sta.ok.len
      have few := sta.ok.ok.few g
      refine ⟨_, ?_, (levelF N f wt).1, (levelF N f wt).2, lt, _, _, _, _, rfl, rfl, sta.bas, sta.fd, ⟨ys, .inl (.inl (hid_at hy1 ?_)), DpAll.mono hid_tail hy2⟩, sta.ok.ok, sta.ok.new, fun g h => M.run g (.step hw h)⟩
      · by_cases he : (levelF N f wt).2 = []
        · rw [if_pos he]
          rw [he, List.length_nil] at hlen
          omega
        · rw [if_neg he]
          have := List.length_pos_iff.mpr he
          omega
      · intro z
        rcases List.mem_cons.mp z with z | z
        · exact sta.ne z.symm
        · exact not_mem_of hS gl z
end
end K41
namespace K41
open PySem PySem.Spec PyProof.Rows L2 PySem.W
section
variable {P : Program} {w : World} {K : PySem.W.Frag} {mg : Str → Option Value} {base : Heap} {C : Addr}
def spWidthL (K : PySem.W.Frag) : Sp := fun vs H Q _ => ∃ (S : List Addr) (v u : L2.V) (N : Net) (s : List Str), vs = [v, u] ∧ Live S H ∧ LNet K (hid S H) v N ∧ Good N ∧ Dp K (hid S H) u (eW s) ∧ IsSet N s ∧
  ∀ (H' : Hp) (m : Nat), WidthIs N s m → Kp [] H H' → Q (.int (m : Int)) H'
theorem c_l_width_of (Y : Env K mg C) : Def P w K mg base (Str.ofString "_law_width_of") 3 ["_law_net_here", "_law_setting_here"] (spWidthL K) := by
  refine def_mk Y.t_l_width_of sc_l_width_of bb_l_width_of (fun vs H Q E h => ?_) (fun f cdv A outer s H vs Q E hr h => ?_)
  · obtain ⟨S, v, u, N, s, rfl, _⟩ := h
    rfl
  · obtain ⟨S, v, u, N, st, rfl, hS, hN, g, h1, hs, k⟩ := h
    refine ⟨_, (pss_one (ps_ret (pe_callB (K_max (K := K) rfl rfl) (by rfl) Y.n_max (by decide +kernel) (pa_cons (pe_lc (own := [("_law_here", 2)]) rfl sc_l_width_of.nd (pi_keys (pe_frz (pe_def (c_l_reached Y) (hr.mono (by decide)) (pa_cons (pv 0) (pa_cons (pv 1) pa_nil))))) (blkOk_by (own := [("_law_here", 2)]) (N := ["_law_net_here", "_law_setting_here", "_law_here"]) (sc := defScope s_l_width_of) (by decide +kernel)) (fun _ _ _ _ _ => (pg_name (i := 2) sc_l_width_of.nd rfl (Or.inl rfl))) (fun _ _ _ _ _ => pts_nil) (fun _ _ _ _ _ => (pe_maxVals rfl (pe_frz (pe_def (c_l_reached Y) (hr.mono (by decide)) (pa_cons (pv 0) (pa_cons (pe_callTy (K_list (K := K) rfl) (by rfl) Y.n_list (by decide +kernel) (pa_cons (pv 2) pa_nil)) pa_nil)))) (by rfl) Y.n_max))) pa_nil)))), ?_⟩
    refine ⟨_, rfl, _, rfl, S, v, u, N, st, rfl, hS, hN, g, h1, hs, fun d H2 f k2 nd hd lay ok => ?_⟩
    refine ⟨d, _, rfl, hd, True.intro, fun od => ?_⟩
    have kA : Kp [] H (upd H2 d (.frz od (.dT (eF f)))) := k2.put nd
    have dA : (upd H2 d (.frz od (.dT (eF f)))) d = some (.frz od (.dT (eF f))) := upd_same
    have few := ok.few g
    have hNA := hN.mono (kA.hid0 (S := S))
    have hSA := kA.live hS
    refine ⟨d, od, rfl, .inr ⟨eF f, upd_same, fun D hD => ?_⟩⟩
    generalize (upd H2 d (.frz od (.dT (eF f)))) = HA at kA dA hD hNA hSA ⊢
    refine lcRM (K := K) (S := S) (T := []) walkF (fun _ _ => True) (fun i ds => ds = ((keysF f).take i).map (fun k => .int (mostF (layersOf N k) : Int)) ∧ ∀ k ∈ (keysF f).take i, Layers N k (layersOf N k)) hD (by simp) hSA (by unfold keysF; rw [List.length_map]; omega) (fun H' kp => kp.same _ _ dA) ⟨rfl, by simp⟩ trivial (fun _ _ _ _ => trivial) ?_ ?_
    · rintro i x1 Ha Hb ds Yes hi kp hL _ ⟨rfl, hall⟩ ⟨rfl, y⟩ yes
      have hg := List.getElem?_eq_getElem hi
      obtain ⟨q, rfl, hq⟩ := y _ hg
      have hset := ok.sets _ (List.getElem_mem hi)
      have m : Same (hid S HA) (hid (D :: S) Hb) := by
        rw [← hid_cons hD]
        exact kp.hid0
      refine ⟨rfl, _, rfl, _, rfl, q, _, rfl, .inr (.inl (.inl hq)), fun p np => ?_⟩
      refine ⟨D :: S, v, .ref p, N, (keysF f)[i], rfl, (kp_new (T := []) np).live hL, hNA.mono (m.trans (kp_new np).hid0), g, words_dp (.inl (.inl (hid_at upd_same (not_mem_of hL np)))), hset, fun d2 H3 f2 k3 nd2 hd2 lay2 ok2 => ?_⟩
      refine ⟨d2, _, rfl, hd2, True.intro, fun od2 => ?_⟩
      have hne := keys_ne lay2.start
      refine ⟨d2, eF f2, _, rfl, .inr ⟨od2, upd_same⟩, vals_eF f2, fun e => hne (List.map_eq_nil_iff.mp e), fun m hm hle => ?_⟩
      have em := most_cast hne hm hle
      subst em
      have e2 := layersOf_eq lay2
      refine yes _ _ (.int (mostF (layersOf N (keysF f)[i]) : Int)) (((kp_new np).trans k3).put ((kp_new (T := []) np).free nd2)) trivial ?_ ?_
      · rw [e2]
        exact .int _
      · rw [take_snoc' hg, List.map_append]
        refine ⟨rfl, fun z hz => ?_⟩
        rcases List.mem_append.mp hz with hz | hz
        · exact hall z hz
        · rw [List.mem_singleton.mp hz, e2]
          exact lay2
    · rintro H3 ys ds kp hL _ ⟨rfl, hall⟩ hl hle da dp
      rw [List.take_length] at hall da
      have ei : ((keysF f).map fun k => PyData.int (mostF (layersOf N k) : Int)) = ((keysF f).map fun k => (mostF (layersOf N k) : Int)).map .int := by
        rw [List.map_map]
        rfl
      rw [ei] at da
      rw [da_ints da] at hl
      refine ⟨D, _, rfl, .inl (.inl hl), by rw [List.length_map]; exact List.length_pos_of_mem lay.start, fun m hm hle2 => ?_⟩
      obtain ⟨n, rfl, hw⟩ := width_of lay hall hm hle2
      exact k H3 n hw (kA.trans kp)
end
end K41
namespace K41
open PySem PySem.Spec PyProof.Rows L2 PySem.W
theorem smm {a b : Str} (h : a ≠ b) : (sMin a b = a ∧ sMax a b = b) ∨ (sMin a b = b ∧ sMax a b = a) := by
  unfold sMin sMax
  rcases lt_or h with h1 | h1
  · have h2 : ¬ sLt b a = true := fun z => lt_asymm h1 (slt_iff.mp z)
    rw [if_neg h2, if_pos (slt_iff.mpr h1)]
    exact .inl ⟨rfl, rfl⟩
  · have h2 : ¬ sLt a b = true := fun z => lt_asymm h1 (slt_iff.mp z)
    rw [if_pos (slt_iff.mpr h1), if_neg h2]
    exact .inr ⟨rfl, rfl⟩
theorem tie_ne {x y u v : Str} (h1 : x ≠ y) (h2 : u ≠ v) (h : ¬ (x = u ∧ y = v)) (h' : ¬ (x = v ∧ y = u)) : (sMin x y, sMax x y) ≠ (sMin u v, sMax u v) := fun e => by
  have e1 := congrArg Prod.fst e
  have e2 := congrArg Prod.snd e
  dsimp only at e1 e2
  rcases smm h1 with ⟨a, b⟩ | ⟨a, b⟩ <;> rcases smm h2 with ⟨c, d⟩ | ⟨c, d⟩ <;> rw [a, c] at e1 <;> rw [b, d] at e2
  · exact h ⟨e1, e2⟩
  · exact h' ⟨e1, e2⟩
  · exact h' ⟨e2, e1⟩
  · exact h ⟨e2, e1⟩
def kiteE : List (Int × Int) := [(0, 1), (0, 2), (0, 3), (1, 2)]
theorem kite_nd {ws : List Str} (hn : ws.Nodup) (hl : ws.length = 4) : (kiteE.map (tieOf ws)).Nodup := by
  match ws, hl, hn with
  | [a, b, c, d], _, hn =>
    simp only [List.nodup_cons, List.mem_cons, List.not_mem_nil, or_false, not_or, List.nodup_nil, not_false_eq_true, and_true] at hn
    obtain ⟨⟨ab, ac, ad⟩, ⟨bc, bd⟩, cd⟩ := hn
    have e : kiteE.map (tieOf [a, b, c, d]) = [(sMin a b, sMax a b), (sMin a c, sMax a c), (sMin a d, sMax a d), (sMin b c, sMax b c)] := rfl
    rw [e]
    simp only [List.nodup_cons, List.mem_cons, List.not_mem_nil, or_false, not_or, List.nodup_nil, not_false_eq_true, and_true]
    exact ⟨⟨tie_ne ab ac (fun z => bc z.2) (fun z => ac z.1), tie_ne ab ad (fun z => bd z.2) (fun z => ad z.1), tie_ne ab bc (fun z => ab z.1) (fun z => ac z.1)⟩, ⟨tie_ne ac ad (fun z => cd z.2) (fun z => ad z.1), tie_ne ac bc (fun z => ab z.1) (fun z => ac z.1)⟩, tie_ne ad bc (fun z => ab z.1) (fun z => ac z.1)⟩
theorem kite_ok : ∀ e ∈ kiteE, EdgeOk 4 e := by
  intro e he
  simp only [kiteE, List.mem_cons, List.not_mem_nil, or_false] at he
  rcases he with rfl | rfl | rfl | rfl <;> exact ⟨by decide, by decide, by decide⟩
theorem putK_in {ws : List Str} {g : Str → V} {l : Str} {v : V} (h : l ∈ ws) : putK (fk ws g) (Sum.inr l : Key) v = fk ws fun m => if m = l then v else g m := by
  unfold putK
  rw [valV_any, valV_fk h, if_pos (by rfl)]
  unfold fk
  rw [List.map_map]
  refine List.map_congr_left fun m _ => ?_
  show (if (Sum.inr m : Key) = Sum.inr l then ((Sum.inr m : Key), v) else (Sum.inr m, g m)) = (Sum.inr m, if m = l then v else g m)
  by_cases e : m = l
  · rw [if_pos (by rw [e]), if_pos e]
  · rw [if_neg (fun z => e (Sum.inr.inj z)), if_neg e]
section
variable {K : PySem.W.Frag} {S : List Addr} {H : Hp} {d : Addr} {kvs : List (Key × V)}
theorem hid_not {a : Addr} {o : HO} (hd : H d = some (.dK kvs)) (h : hid S H a = some o) (hne : o ≠ .dK kvs) : hid (d :: S) H a = some o := by
  have hS : a ∉ S := fun z => by
    unfold hid at h
    rw [if_pos z] at h
    cases h
  have hH := hid_le _ _ h
  refine hid_at hH fun z => ?_
  rcases List.mem_cons.mp z with z | z
  · rw [z, hd] at hH
    exact hne (Option.some.inj hH).symm
  · exact hS z
theorem seq_hide (hd : H d = some (.dK kvs)) {a : Addr} {xs : List V} (h : SqL K (hid S H) a xs) : SqL K (hid (d :: S) H) a xs := by
  rcases h with (h | ⟨o, h⟩) | h
  · exact .inl (.inl (hid_not hd h fun z => nomatch z))
  · exact .inl (.inr ⟨o, hid_not hd h fun z => nomatch z⟩)
  · exact .inr h
theorem tup_hide (hd : H d = some (.dK kvs)) {a : Addr} {xs : List V} (h : SqT K (hid S H) a xs) : SqT K (hid (d :: S) H) a xs := by
  rcases h with (h | ⟨o, h⟩) | h
  · exact .inl (.inl (hid_not hd h fun z => nomatch z))
  · exact .inl (.inr ⟨o, hid_not hd h fun z => nomatch z⟩)
  · exact .inr h
theorem dp_hide (hd : H d = some (.dK kvs)) {v : V} {x : PyData} (h : Dp K (hid S H) v x) : Dp K (hid (d :: S) H) v x := by
  refine Dp.rec (motive_1 := fun v x _ => Dp K (hid (d :: S) H) v x) (motive_2 := fun vs ds _ => DpAll K (hid (d :: S) H) vs ds) .non .bl .int .str (fun hs _ ih => .lst (seq_hide hd hs) ih) (fun hs _ ih => .tup (tup_hide hd hs) ih) .nil (fun _ _ h1 h2 => .cons h1 h2) h
theorem near_hide {ws : List Str} {g : Str → Str} {r : Addr} {ts : List (Str × Str)} (hd : H d = some (.dK (fk ws fun l => .str (g l)))) (h0 : 0 < ws.length) (h : NearAt K (hid S H) r ws ts) : NearAt K (hid (d :: S) H) r ws ts := by
  obtain ⟨nb, n1, n2⟩ := h
  refine ⟨nb, hid_not hd n1 fun z => ?_, fun l hl => seq_hide hd (n2 l hl)⟩
  cases ws with
  | nil => exact absurd h0 (by decide)
  | cons w ws =>
    injection z with z
    have q := (List.cons.inj z).1
    cases q
end
theorem kp_two {a p : Addr} {H H1 H2 : Hp} (x : Kp [p] H H1) (y : Kp [a] H1 H2) : Kp [a, p] H H2 := x.cons.trans (y.mono fun b h => by rw [List.mem_singleton.mp h]; exact List.mem_cons_self ..)
theorem kp_sub {a : Addr} {T : List Addr} {H H1 : Hp} (x : Kp (a :: T) H H1) (h : H a = none) : Kp T H H1 := fun b o e => ⟨(x b o e).1, fun hb => (x b o e).2 fun z => by
  rcases List.mem_cons.mp z with z | z
  · rw [z, h] at e
    cases e
  · exact hb z⟩
section
variable {P : Program} {w : World} {K : PySem.W.Frag} {mg : Str → Option Value} {base : Heap} {C : Addr}
def spKite (K : PySem.W.Frag) : Sp := fun vs H Q _ => ∃ (S : List Addr) (p : Addr) (m : Nat), vs = [.ref p] ∧ Live S H ∧ p ∈ S ∧ Purse H p m ∧ m + 300 ≤ 1000000000 ∧
  ∀ (z : Addr) (n u : L2.V) (H' : Hp) (N : Net) (s : List Str), Kp [p] H H' → Purse H' p (m + 300) → SqL K (hid S H') z [n, u] → LNet K (hid S H') n N → Good N → Dp K (hid S H') u (eW s) → IsSet N s → Q (.ref z) H'
theorem c_l_kite (Y : Env K mg C) : Def P w K mg base (Str.ofString "_law_kite") 5 ["_law_purse_here"] (spKite K) := by
  refine def_mk Y.t_l_kite sc_l_kite bb_l_kite (fun vs H Q E h => ?_) (fun f cdv A outer s H vs Q E hr h => ?_)
  · obtain ⟨S, p, m, rfl, _⟩ := h
    rfl
  · obtain ⟨S, p, m, rfl, hS, hp, hP, hm, k⟩ := h
    have hu := hu_of hr
    have two : 2 ≤ sizeLine := by decide
    refine ⟨_, (pss_cons (ps_set (i := 1) sc_l_kite.nd rfl (Or.inr rfl) (pe_def (c_l_words Y) (hr.mono (by decide)) (pa_cons (pv 0) (pa_cons pe_int pa_nil))))
    (pss_cons (ps_set (i := 2) sc_l_kite.nd rfl (Or.inl rfl) (pe_lst (pa_cons (pe_tup (pa_cons pe_int (pa_cons pe_int pa_nil))) (pa_cons (pe_tup (pa_cons pe_int (pa_cons pe_int pa_nil))) (pa_cons (pe_tup (pa_cons pe_int (pa_cons pe_int pa_nil))) (pa_cons (pe_tup (pa_cons pe_int (pa_cons pe_int pa_nil))) pa_nil))))))
    (pss_cons (ps_set (i := 3) sc_l_kite.nd rfl (Or.inl rfl) (pe_callB (K_sort (K := K) rfl (hu100 hr)) (by rfl) Y.n_sorted (by decide +kernel) (pa_cons (pe_lc (own := [("_law_one", 9), ("_law_other", 10)]) rfl sc_l_kite.nd (K_pil (K := K) rfl (pv 2)) (blkOk_by (own := [("_law_one", 9), ("_law_other", 10)]) (N := ["_law_purse_here", "_law_words_here", "_law_edges", "_law_named", "_law_net_here", "_law_lamp", "_law_start", "_law_lot", "_law_near_here", "_law_one", "_law_other"]) (sc := defScope s_l_kite) (by decide +kernel)) (fun _ _ _ _ _ => (K_pgtup (K := K) (n := 2) rfl rfl (pgs_cons (pg_name (i := 9) sc_l_kite.nd rfl (Or.inl rfl)) (pgs_cons (pg_name (i := 10) sc_l_kite.nd rfl (Or.inl rfl)) pgs_nil)))) (fun _ _ _ _ _ => pts_nil) (fun _ _ _ _ _ => (pe_tup (pa_cons (pe_callB (call_minS rfl) (by rfl) Y.n_min (by decide +kernel) (pa_cons (pe_ix (K_ixL (K := K) rfl) (pv 1) (pv 9) (fun _ _ => rfl)) (pa_cons (pe_ix (K_ixL (K := K) rfl) (pv 1) (pv 10) (fun _ _ => rfl)) pa_nil))) (pa_cons (pe_callB (call_maxS rfl) (by rfl) Y.n_max (by decide +kernel) (pa_cons (pe_ix (K_ixL (K := K) rfl) (pv 1) (pv 9) (fun _ _ => rfl)) (pa_cons (pe_ix (K_ixL (K := K) rfl) (pv 1) (pv 10) (fun _ _ => rfl)) pa_nil))) pa_nil))))) pa_nil)))
    (pss_cons (ps_set (i := 4) sc_l_kite.nd rfl (Or.inl rfl) (pe_lst (pa_cons (pe_callB (K_sort (K := K) rfl (hu100 hr)) (by rfl) Y.n_sorted (by decide +kernel) (pa_cons (pv 1) pa_nil)) (pa_cons (pv 3) (pa_cons (pe_callTy (K_dict (K := K) rfl rfl) (by rfl) Y.n_dict (by decide +kernel) (pa_cons (pe_lc (own := [("_law_lamp", 5)]) rfl sc_l_kite.nd (K_pil (K := K) rfl (pe_callB (K_sort (K := K) rfl (hu100 hr)) (by rfl) Y.n_sorted (by decide +kernel) (pa_cons (pv 1) pa_nil))) (blkOk_by (own := [("_law_lamp", 5)]) (N := ["_law_purse_here", "_law_words_here", "_law_edges", "_law_named", "_law_net_here", "_law_lamp", "_law_start", "_law_lot", "_law_near_here", "_law_one", "_law_other"]) (sc := defScope s_l_kite) (by decide +kernel)) (fun _ _ _ _ _ => (pg_name (i := 5) sc_l_kite.nd rfl (Or.inl rfl))) (fun _ _ _ _ _ => pts_nil) (fun _ _ _ _ _ => (pe_tup (pa_cons (pv 5) (pa_cons pe_str pa_nil))))) pa_nil)) pa_nil)))))
    (pss_cons (ps_asg (pe_tup (pa_cons (pe_def (c_l_setting Y) (hr.mono (by decide)) (pa_cons (pv 0) (pa_cons (pv 4) pa_nil))) (pa_cons (pe_def (c_l_near Y) (hr.mono (by decide)) (pa_cons (pv 4) pa_nil)) pa_nil))) (K_pgtup (K := K) (n := 2) rfl rfl (pgs_cons (pg_name (i := 7) sc_l_kite.nd rfl (Or.inr rfl)) (pgs_cons (pg_name (i := 8) sc_l_kite.nd rfl (Or.inl rfl)) pgs_nil))))
    (pss_cons (ps_for PassesOwn.never rfl (K_pil (K := K) rfl (pe_ix (K_ixL (K := K) rfl) (pv 4) pe_int (fun _ _ => rfl))) (pg_name (i := 5) sc_l_kite.nd rfl (Or.inl rfl))
    (pss_one (ps_if (pt_cmpR op_eq (pe_op op_mod (pe_callTy call_int1 (by rfl) Y.n_int (by decide +kernel) (pa_cons (pe_callB (K_len (K := K) rfl) (by rfl) Y.n_len (by decide +kernel) (pa_cons (pe_lc (own := [("_law_other", 10)]) rfl sc_l_kite.nd (K_pil (K := K) rfl (pe_dget (hu_of hr) (pv 8) (pv 5) (fun _ _ => rfl))) (blkOk_by (own := [("_law_other", 10)]) (N := ["_law_purse_here", "_law_words_here", "_law_edges", "_law_named", "_law_net_here", "_law_lamp", "_law_start", "_law_lot", "_law_near_here", "_law_one", "_law_other"]) (sc := defScope s_l_kite) (by decide +kernel)) (fun _ _ _ _ _ => (pg_name (i := 10) sc_l_kite.nd rfl (Or.inl rfl))) (fun _ _ _ _ _ => (pts_one (pt_cmpR (K_in_seq (K := K) rfl) (pv 10) (pv 7) rfl))) (fun _ _ _ _ _ => (pv 10))) pa_nil)) pa_nil)) pe_int) pe_int (nomark _)) (pss_one (ps_dput (hu_of hr) (pe_ix (K_ixL (K := K) rfl) (pv 4) pe_int (fun _ _ => rfl)) (pv 5) pe_str rfl)) pss_nil)))
    (pss_cons (ps_set (i := 6) sc_l_kite.nd rfl (Or.inr rfl) (pe_lst (pa_cons (pe_ix (K_ixL (K := K) rfl) (pv 1) pe_int (fun _ _ => rfl)) (pa_cons (pe_ix (K_ixL (K := K) rfl) (pv 1) pe_int (fun _ _ => rfl)) (pa_cons (pe_ix (K_ixL (K := K) rfl) (pv 1) pe_int (fun _ _ => rfl)) pa_nil)))))
    (pss_one (ps_ret (pe_lst (pa_cons (pv 4) (pa_cons (pe_lc (own := [("_law_lamp", 5)]) rfl sc_l_kite.nd (K_pil (K := K) rfl (pe_ix (K_ixL (K := K) rfl) (pv 4) pe_int (fun _ _ => rfl))) (blkOk_by (own := [("_law_lamp", 5)]) (N := ["_law_purse_here", "_law_words_here", "_law_edges", "_law_named", "_law_net_here", "_law_lamp", "_law_start", "_law_lot", "_law_near_here", "_law_one", "_law_other"]) (sc := defScope s_l_kite) (by decide +kernel)) (fun _ _ _ _ _ => (pg_name (i := 5) sc_l_kite.nd rfl (Or.inl rfl))) (fun _ _ _ _ _ => (pts_one (pt_cmpR op_ne (pe_cmpR (K_in_seq (K := K) rfl) (pv 5) (pv 6) rfl) (pe_cmpR (K_in_seq (K := K) rfl) (pv 5) (pv 7) rfl) (nomark _)))) (fun _ _ _ _ _ => (pv 5))) pa_nil)))))))))))), ?_⟩
    refine ⟨_, rfl, S, p, m, _, [.int 4], rfl, hS, hp, hP, by omega, .cons (.int _) .nil, ⟨4, rfl, by decide, by decide⟩, fun v1 H0 d1 k0 hP0 ⟨n, ws, en, ed, hnd, hlen, hww⟩ hv1 => ?_⟩
    subst ed
    have e4 : (4 : Int) = n := by
      have q := (List.cons.inj en).1
      injection q
    subst e4
    have hl4 : ws.length = 4 := by omega
    obtain ⟨wa, rfl, hwa⟩ := dp_words hv1
    have hS0 := k0.live hS
    refine ⟨two, fun t1 n1 => ⟨two, fun t2 n2 => ⟨two, fun t3 n3 => ⟨two, fun t4 n4 => ⟨by show 4 ≤ sizeLine; decide, fun l nl => ?_⟩⟩⟩⟩⟩
    have c1 : (upd H0 t1 (.tup [.int 0, .int 1])) t1 = some (.tup [.int 0, .int 1]) := upd_same
    have kk1 : Kp [] H0 (upd H0 t1 (.tup [.int 0, .int 1])) := kp_new n1
    generalize (upd H0 t1 (.tup [.int 0, .int 1])) = H1 at *
    have c2 : (upd H1 t2 (.tup [.int 0, .int 2])) t2 = some (.tup [.int 0, .int 2]) := upd_same
    have kk2 : Kp [] H1 (upd H1 t2 (.tup [.int 0, .int 2])) := kp_new n2
    generalize (upd H1 t2 (.tup [.int 0, .int 2])) = H2 at *
    have c3 : (upd H2 t3 (.tup [.int 0, .int 3])) t3 = some (.tup [.int 0, .int 3]) := upd_same
    have kk3 : Kp [] H2 (upd H2 t3 (.tup [.int 0, .int 3])) := kp_new n3
    generalize (upd H2 t3 (.tup [.int 0, .int 3])) = H3 at *
    have c4 : (upd H3 t4 (.tup [.int 1, .int 2])) t4 = some (.tup [.int 1, .int 2]) := upd_same
    have kk4 : Kp [] H3 (upd H3 t4 (.tup [.int 1, .int 2])) := kp_new n4
    generalize (upd H3 t4 (.tup [.int 1, .int 2])) = H4 at *
    have c6 : (upd H4 l (.lst [.ref t1, .ref t2, .ref t3, .ref t4])) l = some (.lst [.ref t1, .ref t2, .ref t3, .ref t4]) := upd_same
    have kk6 : Kp [] H4 (upd H4 l (.lst [.ref t1, .ref t2, .ref t3, .ref t4])) := kp_new nl
    generalize (upd H4 l (.lst [.ref t1, .ref t2, .ref t3, .ref t4])) = H6 at *
    have k6 : Kp [] H0 H6 := (((kk1.trans kk2).trans kk3).trans kk4).trans kk6
    have hE : DpAll K H6 [.ref t1, .ref t2, .ref t3, .ref t4] (kiteE.map eP2) :=
      .cons (pair_dp (.inl (.inl ((((kk2.trans kk3).trans kk4).trans kk6).same _ _ c1)))) (.cons (pair_dp (.inl (.inl (((kk3.trans kk4).trans kk6).same _ _ c2)))) (.cons (pair_dp (.inl (.inl ((kk4.trans kk6).same _ _ c3)))) (.cons (pair_dp (.inl (.inl (kk6.same _ _ c4)))) .nil)))
    have hw6 := k6.hid0.seq hwa
    have L6 := k6.live hS0
    -- the ties
    refine ⟨_, rfl, l, rfl, ⟨_, .inl (.inl c6)⟩, fun D hD => ?_⟩
    refine lcS (K := K) (items := kiteE) (S := S) (walkD hE) (fun e => eT2 (tieOf ws e)) hD L6 (by decide) (fun H' kp => .inl (.inl (kp.same _ _ c6))) ?_ ?_
    · rintro i e x1 Ha Hb Yes hi kp hL ⟨rfl, y⟩ yes
      obtain ⟨q, rfl, hqt⟩ := dp_pair (y e hi)
      have hqt' := Same.tup kp.same hqt
      obtain ⟨z0, z1, z2⟩ := kite_ok e (List.mem_of_getElem? hi)
      have bs : SqL K Hb wa (ws.map L2.V.str) := kp.same.seq (hid_le.seq hw6)
      obtain ⟨j1, hj1, e1, a1⟩ := word_at bs z0 (by omega)
      obtain ⟨j2, hj2, e2', a2⟩ := word_at bs (i := e.2) (by omega) (by omega)
      have et : tieOf ws e = (sMin ws[j1] ws[j2], sMax ws[j1] ws[j2]) := by
        unfold tieOf
        rw [e1, e2', Int.toNat_natCast, Int.toNat_natCast, List.getD_eq_getElem?_getD, List.getD_eq_getElem?_getD, List.getElem?_eq_getElem hj1, List.getElem?_eq_getElem hj2]
        rfl
      refine ⟨q, _, rfl, hqt', rfl, _, _, rfl, _, _, rfl, rfl, rfl, _, rfl, _, rfl, wa, _, _, _, rfl, rfl, bs, a1, _, rfl, _, rfl, wa, _, _, _, rfl, rfl, bs, a2, _, _, rfl, _, rfl, _, rfl, wa, _, _, _, rfl, rfl, bs, a1, _, rfl, _, rfl, wa, _, _, _, rfl, rfl, bs, a2, _, _, rfl, two, fun T nT => ?_⟩
      exact yes _ _ (kp_new nT) (tie_dp (t := tieOf ws e) (.inl (.inl (hid_at (by rw [upd_same, et]) (not_mem_of hL nT)))))
    intro H7 ys k7 hL7 hl7 hle7 da7 dp7
    have da7' : DpAll K (hid S H7) ys ((kiteE.map (tieOf ws)).map eT2) := by
      rw [List.map_map]
      exact DpAll.mono hid_tail da7
    refine sort_ans (.inl (.inl hl7)) da7' hid_le (al_ties _) (ok_ties _) dep_tie fun sp zs nsp dz => ?_
    have k07 := k6.trans k7
    have k8 : Kp [] H7 (upd H7 sp (.lst zs)) := kp_new nsp
    have sp8 : (upd H7 sp (.lst zs)) sp = some (.lst zs) := upd_same
    have d8 := DpAll.mono k8.hid0 dz
    have spS : sp ∉ S := not_mem_of hL7 nsp
    generalize (upd H7 sp (.lst zs)) = H8 at k8 sp8 d8 ⊢
    have k08 := k07.trans k8
    -- the net
    refine ⟨_, rfl, ?_⟩
    refine sort_words (k08.same.seq (hid_le.seq hwa)) fun sb nsb => ?_
    have k9 : Kp [] H8 (upd H8 sb (.lst ((srt PyData.str ws).map L2.V.str))) := kp_new nsb
    have sb9 : (upd H8 sb (.lst ((srt PyData.str ws).map L2.V.str))) sb = some (.lst ((srt PyData.str ws).map L2.V.str)) := upd_same
    have sbS : sb ∉ S := not_mem_of (k08.live hS0) nsb
    generalize (upd H8 sb (.lst ((srt PyData.str ws).map L2.V.str))) = H9 at k9 sb9 ⊢
    have k09 := k08.trans k9
    refine ⟨_, rfl, _, rfl, ?_⟩
    refine sort_words (k09.same.seq (hid_le.seq hwa)) fun sb2 nsb2 => ?_
    have k10 : Kp [] H9 (upd H9 sb2 (.lst ((srt PyData.str ws).map L2.V.str))) := kp_new nsb2
    have sb10 : (upd H9 sb2 (.lst ((srt PyData.str ws).map L2.V.str))) sb2 = some (.lst ((srt PyData.str ws).map L2.V.str)) := upd_same
    generalize (upd H9 sb2 (.lst ((srt PyData.str ws).map L2.V.str))) = H10 at k10 sb10 ⊢
    have k010 := k09.trans k10
    have snd : (srt PyData.str ws).Nodup := srt_nodup hnd
    have sl : (srt PyData.str ws).length = 4 := by rw [srt_len]; exact hl4
    refine ⟨sb2, rfl, ⟨_, .inl (.inl sb10)⟩, fun D3 hD3 => ?_⟩
    refine lcS (K := K) (items := srt PyData.str ws) (S := S) walkW (fun l => .tuple [.str l, .str "odd"]) hD3 (k010.live hS0) (by omega) (fun H' kp => .inl (.inl (kp.same _ _ sb10))) ?_ ?_
    · rintro i x x1 He Hf Yes hi kp hL ⟨rfl, y⟩ yes
      obtain rfl := y x hi
      exact ⟨rfl, _, rfl, two, fun T nT => yes _ _ (kp_new nT) (.tup (.inl (.inl (hid_at upd_same (not_mem_of hL nT)))) (.cons (.str _) (.cons (.str _) .nil)))⟩
    intro He ys2 kpe hLe hle2 hlle dae dpe
    obtain ⟨ps2, eps, hps2⟩ := da_kv (g := fun _ => "odd") dae
    refine ⟨D3, ps2, _, rfl, .inl (.inl (by rw [hle2, eps])), paired_mono (fun p kv h => Same.tup hid_le h) hps2, fun wd nwd => ?_⟩
    rw [mergeK_fk snd]
    refine ⟨by show 3 ≤ sizeLine; decide, fun rl nrl => ?_⟩
    have k0e := k010.trans kpe
    have kf := k0e.new (o := .dK (fk (srt PyData.str ws) fun _ => .str "odd")) nwd
    have ew : wd ≠ rl := ne_of_none upd_same nrl
    have kF : Kp [] H0 (upd (upd He wd (.dK (fk (srt PyData.str ws) fun _ => .str "odd"))) rl (.lst [.ref sb, .ref sp, .ref wd])) := kf.new nrl
    have k9F : Kp [] H9 (upd (upd He wd (.dK (fk (srt PyData.str ws) fun _ => .str "odd"))) rl (.lst [.ref sb, .ref sp, .ref wd])) := ((k10.trans kpe).new nwd).new nrl
    have k8F := k9.trans k9F
    have wdS : wd ∉ S := not_mem_of hLe nwd
    have rlS : rl ∉ S := not_mem_of (kf.live hS0) nrl
    have wdF : (upd (upd He wd (.dK (fk (srt PyData.str ws) fun _ => .str "odd"))) rl (.lst [.ref sb, .ref sp, .ref wd])) wd = some (.dK (fk (srt PyData.str ws) fun _ => .str "odd")) := by rw [upd_ne ew, upd_same]
    have rlF : (upd (upd He wd (.dK (fk (srt PyData.str ws) fun _ => .str "odd"))) rl (.lst [.ref sb, .ref sp, .ref wd])) rl = some (.lst [.ref sb, .ref sp, .ref wd]) := upd_same
    have nwd0 := k0e.free nwd
    generalize (upd (upd He wd (.dK (fk (srt PyData.str ws) fun _ => .str "odd"))) rl (.lst [.ref sb, .ref sp, .ref wd])) = HF at kF k9F k8F wdF rlF ⊢
    have tieD : Dp K (hid S HF) (.ref sp) (eT (srt eT2 (kiteE.map (tieOf ws)))) := .lst (.inl (.inl (hid_at (k8F.same _ _ sp8) spS))) (DpAll.mono k8F.hid0 d8)
    have hN : LNet K (hid S HF) (.ref rl) ⟨srt PyData.str ws, srt eT2 (kiteE.map (tieOf ws)), fun _ => "odd"⟩ := ⟨rl, sb, sp, wd, rfl, .inl (.inl (hid_at rlF rlS)), .inl (.inl (hid_at (k9F.same _ _ sb9) sbS)), tieD, hid_at wdF wdS⟩
    have tnd := kite_nd hnd hl4
    have hts : ∀ t ∈ kiteE.map (tieOf ws), Lt t.1 t.2 ∧ t.1 ∈ ws ∧ t.2 ∈ ws := fun t ht => by
      obtain ⟨e, he, rfl⟩ := List.mem_map.mp ht
      exact tieOf_ok hnd (by rw [hl4]; exact kite_ok e he)
    generalize kiteE.map (tieOf ws) = ts at tieD hN tnd hts ⊢
    have ht2 : ∀ t ∈ srt eT2 ts, Lt t.1 t.2 ∧ t.1 ∈ srt PyData.str ws ∧ t.2 ∈ srt PyData.str ws := fun t ht => by
      obtain ⟨q1, q2, q3⟩ := hts t (srt_mem.mp ht)
      exact ⟨q1, srt_mem.mpr q2, srt_mem.mpr q3⟩
    have hgood : ∀ wish : Str → Str, (∀ l, wish l ∈ (["odd", "even", "stuck"] : List Str)) → Good ⟨srt PyData.str ws, srt eT2 ts, wish⟩ := fun wish hw =>
      ⟨srt_lt hnd, fun l hl => hww l (srt_mem.mp hl), by show 0 < (srt PyData.str ws).length; omega, by show (srt PyData.str ws).length ≤ 8; omega, srt_pw ts, srt_nodup tnd, ht2, ties_few (by show 0 < (srt PyData.str ws).length; omega) (by show (srt PyData.str ws).length ≤ 8; omega) (srt_nodup tnd) ht2, fun l hl => hw l⟩
    have g0 := hgood (fun _ => "odd") (fun _ => by simp)
    have PF : Purse HF p (m + 200) := hP0.kp kF (by simp)
    -- the lot
    refine ⟨_, rfl, _, rfl, S, p, m + 200, _, _, rfl, kF.live hS0, hp, PF, by omega, hN, g0, fun u Hl st kl Pl hst hu1 => ?_⟩
    refine ⟨_, rfl, S, _, _, rfl, kl.live (kF.live hS0), hN.mono (kl.hid (pin hp)), g0, fun r Hr kr hnr => ?_⟩
    refine ⟨two, fun tp ntp => ⟨tp, _, rfl, .inl (.inl upd_same), rfl, _, _, rfl, _, _, rfl, rfl, ?_⟩⟩
    have kT := kr.trans (kp_new (T := []) (o := .tup [u, .ref r]) ntp)
    have kX : Kp [p] HF (upd Hr tp (.tup [u, .ref r])) := kl.trans kT.nil
    have hnX := hnr.mono (kp_new (T := []) (o := .tup [u, .ref r]) ntp).hid0
    have huX := Dp.mono kT.hid0 hu1
    have PX : Purse (upd Hr tp (.tup [u, .ref r])) p (m + 208) := Pl.kp kT (by simp)
    generalize (upd Hr tp (.tup [u, .ref r])) = HX at kX hnX huX PX ⊢
    have hwp : wd ≠ p := fun z => wdS (z ▸ hp)
    have wdX : HX wd = some (.dK (fk (srt PyData.str ws) fun _ => .str "odd")) := kX.at (by simpa using hwp) wdF
    have rlX : SqL K (hid (wd :: S) HX) rl [.ref sb, .ref sp, .ref wd] := seq_hide wdX ((kX.hid (pin hp)).seq (.inl (.inl (hid_at rlF rlS))))
    have sbX : SqL K (hid (wd :: S) HX) sb ((srt PyData.str ws).map L2.V.str) := seq_hide wdX ((kX.hid (pin hp)).seq (.inl (.inl (hid_at (k9F.same _ _ sb9) sbS))))
    have waX : SqL K (hid (wd :: S) HX) wa (ws.map L2.V.str) := seq_hide wdX ((kX.hid (pin hp)).seq (kF.hid0.seq hwa))
    have tieX := dp_hide wdX (Dp.mono (kX.hid (pin hp)) tieD)
    have nearX := near_hide wdX (by omega) hnX
    have uX := dp_hide wdX huX
    obtain ⟨ua, rfl, huaX⟩ := dp_words uX
    obtain ⟨nb, nb1, nb2⟩ := nearX
    have tin : ∀ b ∈ [wd], b ∈ wd :: S := fun b hb => by
      rw [List.mem_singleton.mp hb]
      exact List.mem_cons_self ..
    refine ⟨_, rfl, rl, _, 0, _, rfl, rfl, hid_le.seq rlX, at0, sb, rfl, ⟨_, hid_le.seq sbX⟩, ?_⟩
    refine for_it (walkW (ws := srt PyData.str ws)) (fun i σ H' => ∃ (o5 : Option L2.V) (wish : Str → Str), σ = [some (.ref p), some (.ref wa), some (.ref l), some (.ref sp), some (.ref rl), o5, none, some (.ref ua), some (.ref r), none, none] ∧ Kp [wd] HX H' ∧ H' wd = some (.dK (fk (srt PyData.str ws) fun l => .str (wish l))) ∧ ∀ l, wish l ∈ (["odd", "even", "stuck"] : List Str))
      ⟨_, fun _ => "odd", rfl, .refl, wdX, fun _ => by simp⟩ (fun i σ H' _ ⟨_, _, _, kk, _⟩ => hid_le.seq ((kk.hid tin).seq sbX)) ?_ ?_
    · rintro i x σ Hc Hd hi ⟨o5, wish, rfl, kc, wdc, hwi⟩ ⟨rfl, y⟩
      have hg := List.getElem?_eq_getElem hi
      obtain rfl := y _ hg
      have hlm := List.getElem_mem hi
      generalize (srt PyData.str ws)[i] = lm at hg hlm ⊢
      have g1 : DGet Hd r (.str lm) (some (.ref (nb lm))) := by
        have q := DGet.k (k := Sum.inr lm) (hid_le _ _ ((kc.hid tin) _ _ nb1))
        rw [valV_fk hlm] at q
        exact q
      have n2 : SqL K Hd (nb lm) _ := hid_le.seq ((kc.hid tin).seq (nb2 lm hlm))
      have u2 : SqL K Hd ua (st.map L2.V.str) := hid_le.seq ((kc.hid tin).seq huaX)
      refine ⟨_, rfl, _, rfl, r, _, rfl, g1, nb lm, rfl, ⟨_, n2⟩, fun D5 hD5 => ?_⟩
      refine lcT (K := K) (items := nearF (srt eT2 ts) lm) (S := []) walkW (fun o => decide (o ∈ st)) (fun l => .str l) hD5 Live.nil (by have := g0.nearlen lm; exact Nat.le_trans this (by decide)) (fun H' kp => kp.same.seq n2) ?_ ?_
      · rintro i x x1 Ha Hb Yes No hi kp hL ⟨rfl, y⟩ yes no
        obtain rfl := y x hi
        refine ⟨rfl, _, rfl, _, rfl, ua, _, rfl, .inl (kp.same.seq u2), rfl, flat_strs _, _, rfl, ?_⟩
        have q : (if false = true then !inV (.str x) (st.map L2.V.str) else inV (.str x) (st.map L2.V.str)) = decide (x ∈ st) := by rw [if_neg (by decide), inV_str]
        rw [q]
        by_cases h : x ∈ st
        · exact if_yes (decide_eq_true h) ⟨_, rfl, yes _ _ .refl (decide_eq_true h) (.str x)⟩
        · exact if_no (decide_eq_false h) (no _ .refl (decide_eq_false h))
      · intro Ha ys kp hL hl2 hle da dp
        refine ⟨D5, ys, rfl, .inl (.inl (.inl hl2)), .inl ⟨_, rfl, _, _, rfl, rfl, by show (0 : Int) < 2; decide, rfl, _, rfl, ?_⟩⟩
        have ka := kc.trans kp.nil
        have wda := kp.same _ _ wdc
        generalize decide (L2.V.int ((ys.length : Int) % 2) = L2.V.int 1) = bb
        cases bb with
        | false => exact ⟨_, wish, rfl, ka, wda, hwi⟩
        | true =>
          have put := DPut.k (k := (Sum.inr lm : Key)) (v := .str "even") wda (by rw [fk_len, sizeLine_eq]; omega)
          rw [putK_in hlm] at put
          refine ⟨_, rfl, rl, _, 2, _, rfl, rfl, hid_le.seq ((ka.hid tin).seq rlX), at2, _, rfl, wd, _, rfl, put, ?_⟩
          refine ⟨_, fun m => if m = lm then "even" else wish m, rfl, ka.own (List.mem_singleton.mpr rfl), ?_, fun z => ?_⟩
          · rw [upd_same]
            refine congrArg (fun z => some (HO.dK z)) (fk_congr fun z hz => ?_)
            show (if z = lm then L2.V.str "even" else L2.V.str (wish z)) = L2.V.str (if z = lm then ("even" : Str) else wish z)
            split <;> rfl
          · show (if z = lm then ("even" : Str) else wish z) ∈ _
            split
            · simp
            · exact hwi z
    · rintro σ Hc ⟨o5, wish, rfl, kc, wdc, hwi⟩
      have wac : SqL K Hc wa (ws.map L2.V.str) := hid_le.seq ((kc.hid tin).seq waX)
      have i0 : atI (ws.map L2.V.str) 0 = some (.str ws[0]) := atI_nat (j := 0) (by rw [List.getElem?_map, List.getElem?_eq_getElem (by omega)]; rfl)
      have i1 : atI (ws.map L2.V.str) 1 = some (.str ws[1]) := atI_nat (j := 1) (by rw [List.getElem?_map, List.getElem?_eq_getElem (by omega)]; rfl)
      have i3 : atI (ws.map L2.V.str) 3 = some (.str ws[3]) := atI_nat (j := 3) (by rw [List.getElem?_map, List.getElem?_eq_getElem (by omega)]; rfl)
      refine ⟨_, rfl, wa, _, 0, _, rfl, rfl, wac, i0, _, rfl, wa, _, 1, _, rfl, rfl, wac, i1, _, rfl, wa, _, 3, _, rfl, rfl, wac, i3, by show 3 ≤ sizeLine; decide, fun sa nsa => ?_⟩
      generalize ws[0] = x0
      generalize ws[1] = x1
      generalize ws[3] = x3
      have sa1 : (upd Hc sa (.lst [.str x0, .str x1, .str x3])) sa = some (.lst ([x0, x1, x3].map L2.V.str)) := upd_same
      have kd : Kp [] Hc (upd Hc sa (.lst [.str x0, .str x1, .str x3])) := kp_new nsa
      generalize (upd Hc sa (.lst [.str x0, .str x1, .str x3])) = Hd at sa1 kd ⊢
      have kcd := kc.trans kd.nil
      have wdd := kd.same _ _ wdc
      have Fd : Same (hid (wd :: S) HX) (hid (wd :: S) Hd) := kcd.hid tin
      refine ⟨_, rfl, _, rfl, rl, _, 0, _, rfl, rfl, hid_le.seq (Fd.seq rlX), at0, sb, rfl, ⟨_, hid_le.seq (Fd.seq sbX)⟩, fun D6 hD6 => ?_⟩
      have LX : Live S HX := kX.live (kF.live hS0)
      have Ld : Live S Hd := kcd.live LX
      refine lcT (K := K) (items := srt PyData.str ws) (S := S) walkW (fun z => decide (decide (z ∈ [x0, x1, x3]) ≠ decide (z ∈ st))) (fun l => .str l) hD6 Ld (by omega) (fun H' kp => kp.same.seq (hid_le.seq (Fd.seq sbX))) ?_ ?_
      · rintro i x xx Ha Hb Yes No hi kp hL ⟨rfl, y⟩ yes no
        obtain rfl := y x hi
        have q1 : (if false = true then !inV (.str x) ([x0, x1, x3].map L2.V.str) else inV (.str x) ([x0, x1, x3].map L2.V.str)) = decide (x ∈ [x0, x1, x3]) := by rw [if_neg (by decide), inV_str]
        have q2 : (if false = true then !inV (.str x) (st.map L2.V.str) else inV (.str x) (st.map L2.V.str)) = decide (x ∈ st) := by rw [if_neg (by decide), inV_str]
        refine ⟨rfl, _, rfl, _, rfl, sa, _, rfl, .inl (.inl (.inl (kp.same _ _ sa1))), rfl, flat_strs _, _, rfl, _, rfl, ua, _, rfl, .inl (kp.same.seq (hid_le.seq (Fd.seq huaX))), rfl, flat_strs _, rfl, _, rfl, ?_⟩
        rw [q1, q2, bl_eqb]
        by_cases h : decide (x ∈ [x0, x1, x3]) = decide (x ∈ st)
        · exact if_no (by rw [decide_eq_true h]; rfl) (no _ .refl (by simpa using h))
        · exact if_yes (by rw [decide_eq_false h]; rfl) ⟨_, rfl, yes _ _ .refl (by simpa using h) (.str x)⟩
      · intro He ys kp hL hl hle da dp
        refine ⟨two, fun z nz => ?_⟩
        have ke := kp.trans (kp_new (T := []) (o := .lst [.ref rl, .ref D6]) nz)
        have kde := kcd.trans ke.nil
        have zS : z ∉ S := not_mem_of hL nz
        have Fe : Same (hid (wd :: S) HX) (hid S (upd He z (.lst [.ref rl, .ref D6]))) := (kde.hid tin).trans hid_tail
        have kall : Kp [wd, p] HF (upd He z (.lst [.ref rl, .ref D6])) := kp_two kX kde
        refine k z _ _ _ ⟨srt PyData.str ws, srt eT2 ts, wish⟩ ((srt PyData.str ws).filter fun z => decide (decide (z ∈ [x0, x1, x3]) ≠ decide (z ∈ st))) ?_ ?_ (.inl (.inl (hid_at upd_same zS))) ⟨rl, sb, sp, wd, rfl, Fe.seq rlX, Fe.seq sbX, Dp.mono Fe tieX, hid_at (ke.same _ _ wdd) wdS⟩ (hgood wish hwi) (Dp.mono (kp_new (T := []) nz).hid0 dp) ⟨(srt_lt hnd).filter _, fun x hx => (List.mem_filter.mp hx).1⟩
        · exact k0.trans (kp_sub (kF.nil.trans kall) nwd0)
        · exact (PX.kp kde (by simpa using hwp.symm)).mono (by omega)
end
end K41
namespace K41
open PySem PySem.Spec PyProof.Rows L2 PySem.W
/-- the def st stands under its name x, keeps the promise sp, and its text is known -/
structure Def2 (P : Program) (w : World) (K : PySem.W.Frag) (mg : Str → Option Value) (base : Heap) (x : Str) (st : Stmt) (k : Nat) (ps : List Str) (sp : Sp) : Prop where
  ex : ∃ (f : Addr) (fd : FuncData), FnOk P w K mg base CX0 k f fd ps sp ∧ mg x = some (.ref f) ∧ Fun K x x st f fd
section
variable {P : Program} {w : World} {K : PySem.W.Frag} {mg : Str → Option Value} {base : Heap}
theorem def_mk2 {x : String} {st : Stmt} {N ps : List Str} {k : Nat} {sp : Sp} (T : Top1 K mg x st) (S : FnScope N ps (defScope st)) (len : ∀ vs H Q E, sp vs H Q E → vs.length = ps.length)
    (hbody : ∀ (f : Addr) (cdv : Value) (A : Around) (outer : List PySem.Env) (s : Shared) (H : Hp) (vs : List V) (Q : VK) (E : XK), Room k (A.deeper (envOfC (Str.ofString x) (defScope st) s.heap.objs.size f cdv)) → sp vs H Q E →
      ∃ t, PSs (cxOf CX0 P w K mg base N (Str.ofString x) (defScope st) f cdv A outer s H E).nox (defBody st) t ∧ t { nx := fun _ H' => Q .non H', rt := Q } (start N vs) H) : Def2 P w K mg base (Str.ofString x) st (k + 1) ps sp := by
  obtain ⟨f, fd, F, hm⟩ := T.ex
  exact ⟨f, fd, F.ok S len (hbody f), hm, F⟩
theorem Def2.mono {x : Str} {st : Stmt} {j k : Nat} {ps : List Str} {sp : Sp} (D : Def2 P w K mg base x st j ps sp) (h : j ≤ k) : Def2 P w K mg base x st k ps sp := by
  obtain ⟨f, fd, F, r⟩ := D.ex
  exact ⟨f, fd, F.mono h, r⟩
end
/-- how a call by the parameters' names alone binds -/
abbrev KBindsBy (st : Stmt) (x : Str) (ps : List Str) : Prop := ∀ (kV doc pm : Value) (an : Option Addr) (cdv ct : Value) (ws : List Value), ws.length = ps.length → bindArgs (PySem.W.fnOf x x (defArgs st) (defBody st) (defScope st) .none kV doc pm an cdv ct) ⟨[], ps.zip ws⟩ = pure (ps.zip ws)
def gK : List Value → List Value → List Value
  | [], ws => ws
  | _ :: _, _ => []
def gVK : List V → List V → List V
  | [], zs => zs
  | _ :: _, _ => []
section
variable {X : Cx}
theorem pe_defK {x : Str} {st : Stmt} {k : Nat} {ps : List Str} {sp : Sp} {kws : List Keyword} {tk : TA} {p pos : Pos} (D : Def2 X.prog X.w X.K X.mg X.base x st k ps sp) (hb : KBindsBy st x ps) (hr : Room k X.A) (hkw : PK X kws tk) (h0 : 0 < ps.length := by decide) (hg : Gl X x := by rfl)
    (hdb : (x == ("__debug__" : Str)) = false := by decide) (hall : (backToKw pos (keywordEach kws X.env)).all (·.1.isSome) = true := by rfl) (hks : (backToKw pos (keywordEach kws X.env)).filterMap (·.1) = ps := by rfl)
    (hpl : ((backTo pos (starEach [] X.env)).any (·.1) || (backToKw pos (keywordEach kws X.env)).any (·.1.isNone)) = false := by rfl) :
    PE X (.Call (.Name x p) [] kws pos) (fun σ H Q => tk σ H fun zs H2 => sp zs H2 Q E0) := by
  obtain ⟨f, fd, F, hm, Fu⟩ := D.ex
  have kb : KBinds X.K fd ps ps gK gVK := by
    obtain ⟨oc, od, kV, doc, pm, an, cdv, ct, osl, rfl, lk, hcd⟩ := Fu.ex
    refine ⟨fun s us ws I hl => ?_, fun {vs us zs ws} h1 h2 => ?_⟩
    · cases us with
      | nil => exact BindsTo.of_eq (hb kV doc pm an cdv ct ws hl)
      | cons u us =>
        have q : (0 : Nat) = ps.length := hl
        omega
    · cases h1 with
      | nil => exact h2
      | cons _ _ => exact .nil
  refine ⟨fun pins s σ H Q I h => ?_⟩
  refine wpAny_Call_Name_kw (ld_glob I hg hm ?_ hdb)
  refine PySem.W.callWith_KW0 (h₀ := X.base) I.ok.mod.kin Fu.kp hall (thn (hkw.run pos pins s σ H _ I h) fun ws s2 ⟨zs, H2, I2, rz, q2⟩ => ⟨I2.kIn, ?_⟩) hpl
  rw [hks]
  exact run_fnk (us := []) (vs := []) F hr kb pass0 I2 .nil rz q2
end
theorem kb_width : KBindsBy s_width (Str.ofString "width") ["net", "setting"] := fun _ _ _ _ _ _ ws hl => match ws, hl with
  | [_, _], _ => rfl
section
variable {P : Program} {w : World} {K : PySem.W.Frag} {mg : Str → Option Value} {base : Heap} {C : Addr}
theorem c2_width (Y : Env K mg C) : Def2 P w K mg base (Str.ofString "width") s_width 7 ["net", "setting"] (spWidth K C) := by
  refine def_mk2 Y.t_width sc_width (fun vs H Q E h => ?_) (fun f cdv A outer s H vs Q E hr h => ?_)
  · obtain ⟨S, v, u, N, s, rfl, _⟩ := h
    rfl
  · obtain ⟨S, v, u, N, st, rfl, hS, hN, g, h1, hs, k⟩ := h
    refine ⟨_, (pss_cons (ps_expr (pe_def (c_check_set Y) (hr.mono (by decide)) (pa_cons (pv 0) (pa_cons (pv 1) pa_nil))))
    (pss_one (ps_ret (pe_callB (K_max (K := K) rfl rfl) (by rfl) Y.n_max (by decide +kernel) (pa_cons (pe_lc (own := [("here", 2)]) rfl sc_width.nd (pi_keys (pe_frz (pe_def (c_layers_from Y) (hr.mono (by decide)) (pa_cons (pv 0) (pa_cons (pv 1) pa_nil))))) (blkOk_by (own := [("here", 2)]) (N := ["net", "setting", "here"]) (sc := defScope s_width) (by decide +kernel)) (fun _ _ _ _ _ => (pg_name (i := 2) sc_width.nd rfl (Or.inl rfl))) (fun _ _ _ _ _ => pts_nil) (fun _ _ _ _ _ => (pe_maxVals rfl (pe_frz (pe_def (c_layers_from Y) (hr.mono (by decide)) (pa_cons (pv 0) (pa_cons (pe_callTy (K_list (K := K) rfl) (by rfl) Y.n_list (by decide +kernel) (pa_cons (pv 2) pa_nil)) pa_nil)))) (by rfl) Y.n_max))) pa_nil))))), ?_⟩
    refine ⟨_, rfl, _, rfl, S, v, [u], N, [eW st], _, rfl, hS, hN, g, .cons h1 .nil, ⟨st, rfl, hs, rfl⟩, fun v1 H1 k1 hv => ?_⟩
    refine ⟨_, rfl, _, rfl, S, v, u, N, st, rfl, k1.live hS, hN.mono k1.hid0, g, Dp.mono k1.hid0 h1, hs, fun d H2 f k2 nd hd lay ok => ?_⟩
    refine ⟨d, _, rfl, hd, True.intro, fun od => ?_⟩
    have kA : Kp [] H (upd H2 d (.frz od (.dT (eF f)))) := (k1.trans k2).put (k1.free nd)
    have dA : (upd H2 d (.frz od (.dT (eF f)))) d = some (.frz od (.dT (eF f))) := upd_same
    have few := ok.few g
    have hNA := hN.mono (kA.hid0 (S := S))
    have hSA := kA.live hS
    refine ⟨d, od, rfl, .inr ⟨eF f, upd_same, fun D hD => ?_⟩⟩
    generalize (upd H2 d (.frz od (.dT (eF f)))) = HA at kA dA hD hNA hSA ⊢
    refine lcRM (K := K) (S := S) (T := []) walkF (fun _ _ => True) (fun i ds => ds = ((keysF f).take i).map (fun k => .int (mostF (layersOf N k) : Int)) ∧ ∀ k ∈ (keysF f).take i, Layers N k (layersOf N k)) hD (by simp) hSA (by unfold keysF; rw [List.length_map]; omega) (fun H' kp => kp.same _ _ dA) ⟨rfl, by simp⟩ trivial (fun _ _ _ _ => trivial) ?_ ?_
    · rintro i x1 Ha Hb ds Yes hi kp hL _ ⟨rfl, hall⟩ ⟨rfl, y⟩ yes
      have hg := List.getElem?_eq_getElem hi
      obtain ⟨q, rfl, hq⟩ := y _ hg
      have hset := ok.sets _ (List.getElem_mem hi)
      have m : Same (hid S HA) (hid (D :: S) Hb) := by
        rw [← hid_cons hD]
        exact kp.hid0
      refine ⟨rfl, _, rfl, _, rfl, q, _, rfl, .inr (.inl (.inl hq)), fun p np => ?_⟩
      refine ⟨D :: S, v, .ref p, N, (keysF f)[i], rfl, (kp_new (T := []) np).live hL, hNA.mono (m.trans (kp_new np).hid0), g, words_dp (.inl (.inl (hid_at upd_same (not_mem_of hL np)))), hset, fun d2 H3 f2 k3 nd2 hd2 lay2 ok2 => ?_⟩
      refine ⟨d2, _, rfl, hd2, True.intro, fun od2 => ?_⟩
      have hne := keys_ne lay2.start
      refine ⟨d2, eF f2, _, rfl, .inr ⟨od2, upd_same⟩, vals_eF f2, fun e => hne (List.map_eq_nil_iff.mp e), fun m hm hle => ?_⟩
      have em := most_cast hne hm hle
      subst em
      have e2 := layersOf_eq lay2
      refine yes _ _ (.int (mostF (layersOf N (keysF f)[i]) : Int)) (((kp_new np).trans k3).put ((kp_new (T := []) np).free nd2)) trivial ?_ ?_
      · rw [e2]
        exact .int _
      · rw [take_snoc' hg, List.map_append]
        refine ⟨rfl, fun z hz => ?_⟩
        rcases List.mem_append.mp hz with hz | hz
        · exact hall z hz
        · rw [List.mem_singleton.mp hz, e2]
          exact lay2
    · rintro H3 ys ds kp hL _ ⟨rfl, hall⟩ hl hle da dp
      rw [List.take_length] at hall da
      have ei : ((keysF f).map fun k => PyData.int (mostF (layersOf N k) : Int)) = ((keysF f).map fun k => (mostF (layersOf N k) : Int)).map .int := by
        rw [List.map_map]
        rfl
      rw [ei] at da
      rw [da_ints da] at hl
      refine ⟨D, _, rfl, .inl (.inl hl), by rw [List.length_map]; exact List.length_pos_of_mem lay.start, fun m hm hle2 => ?_⟩
      obtain ⟨n, rfl, hw⟩ := width_of lay hall hm hle2
      exact k H3 n hw (kA.trans kp)
end
end K41
namespace K41
open PySem PySem.Spec PyProof.Rows L2 PySem.W
noncomputable def widthN (N : Net) (s : List Str) : Nat := Classical.epsilon fun m => WidthIs N s m
theorem widthN_eq {N : Net} {s : List Str} {m : Nat} (h : WidthIs N s m) : widthN N s = m := width_det (Classical.epsilon_spec (p := fun m => WidthIs N s m) ⟨m, h⟩) h
theorem width_move {N : Net} (g : Good N) {s k : List Str} {a : Fd} {n : Nat} (h : IsSet N s) (r : Layers N s a) (hk : k ∈ keysF a) (w : WidthIs N k n) : WidthIs N s n := by
  obtain ⟨b, rb, ⟨y, hy, fy, ly, ey⟩, uy⟩ := w
  have sm := r.same g h hk rb
  exact ⟨a, r, ⟨y, (sm y).mpr hy, fy, ly, ey⟩, fun z hz => uy z ((sm z).mp hz)⟩
def eK (k : List Str) : PyData := .tuple (k.map .str)
theorem keys_dp {K : PySem.W.Frag} {S : List Addr} {H : Hp} (hS : NoTup S H) : ∀ {bs : List (Addr × List Str)}, (∀ b ∈ bs, H b.1 = some (.tup (b.2.map V.str))) → DpAll K (hid S H) (bs.map fun b => V.ref b.1) (bs.map fun b : Addr × List Str => eK b.2)
  | [], _ => .nil
  | b :: bs, h => .cons (.tup (.inl (.inl (hid_at (h b (List.mem_cons_self ..)) (hS.not (h b (List.mem_cons_self ..)))))) (dpAll_strs _)) (keys_dp hS fun x hx => h x (List.mem_cons_of_mem _ hx))
theorem atI_last {α : Type} {xs : List α} (h : 0 < xs.length) : atI xs (-1) = xs[xs.length - 1]? := by
  have e : ixN xs.length (-1) = some (xs.length - 1) := by
    unfold ixN
    rw [if_neg (by decide), if_pos (by omega)]
    refine congrArg some ?_
    omega
  unfold atI
  rw [e]
  rfl
theorem wid_fine {w : Nat} {s : List Str} (h : ∀ x ∈ s, Low x) (hl : s.length ≤ 1000) : Fine 60 (.list [.int w, eW s]) ∧ slim (.list [.int w, eW s]) = true ∧ (PyData.list [.int w, eW s]).depth < 8 := by
  refine ⟨?_, slim_list.mpr ⟨by show 2 ≤ 1000; decide, fun x hx => ?_⟩, ?_⟩
  · have q : Fine 2 (.list [.int w, eW s]) := fine_lst fun x hx => by
      rcases List.mem_cons.mp hx with rfl | hx
      · exact fine_int.mono (by decide)
      · rw [List.mem_singleton.mp hx]
        exact fine_words h
    exact q.mono (by decide)
  · rcases List.mem_cons.mp hx with rfl | hx
    · rfl
    · rw [List.mem_singleton.mp hx]
      exact slim_words hl
  · have q : Fine 2 (.list [.int w, eW s]) := fine_lst fun x hx => by
      rcases List.mem_cons.mp hx with rfl | hx
      · exact fine_int.mono (by decide)
      · rw [List.mem_singleton.mp hx]
        exact fine_words h
    have := q.dep
    omega
theorem two_fine {a b : Nat} : Fine 60 (.list [.int a, .int b]) ∧ slim (.list [.int a, .int b]) = true ∧ (PyData.list [.int a, .int b]).depth < 8 := by
  have q : Fine 1 (.list [.int a, .int b]) := fine_lst fun x hx => by
    rcases List.mem_cons.mp hx with rfl | hx
    · exact fine_int
    · rw [List.mem_singleton.mp hx]
      exact fine_int
  refine ⟨q.mono (by decide), slim_list.mpr ⟨by show 2 ≤ 1000; decide, fun x hx => ?_⟩, by have := q.dep; omega⟩
  rcases List.mem_cons.mp hx with rfl | hx
  · rfl
  · rw [List.mem_singleton.mp hx]
    rfl
/-- both sides the same data -/
theorem exact_data {K : PySem.W.Frag} {G : Hp} {x y : V} {d : PyData} (hx : Dp K G x d) (hy : Dp K G y d) (hf : Fine 60 d ∧ slim d = true ∧ d.depth < 8) : ExP K G 8 x y True :=
  .data hx hy hf.2.2 hf.1 hf.1 hf.2.1 ⟨fun _ => rfl, fun _ => True.intro⟩
section
variable {P : Program} {w : World} {K : PySem.W.Frag} {mg : Str → Option Value} {base : Heap} {C : Addr}
def spWR (K : PySem.W.Frag) : Sp := fun vs H Q _ => ∃ (p : Addr) (m : Nat) (v u : L2.V) (N : Net) (ss : List (List Str)), vs = [.ref p, v, u] ∧ Purse H p m ∧ m + 10 ≤ 1000000000 ∧ LNet K (hid [p] H) v N ∧ Good N ∧ Dp K (hid [p] H) u (.list (ss.map eW)) ∧ (∀ s ∈ ss, IsSet N s) ∧ 0 < ss.length ∧ ss.length ≤ 10 ∧
  ∀ H', Kp [p] H H' → Purse H' p (m + 10) → Q (.bl true) H'
theorem c_l_widths_right (Y : Env K mg C) : Def P w K mg base (Str.ofString "_law_widths_right") 9 ["_law_purse_here", "_law_net_here", "_law_starts"] (spWR K) := by
  refine def_mk Y.t_l_widths_right sc_l_widths_right bb_l_widths_right (fun vs H Q E h => ?_) (fun f cdv A outer s H vs Q E hr h => ?_)
  · obtain ⟨p, m, v, u, N, ss, rfl, _⟩ := h
    rfl
  · obtain ⟨p, m, v, u, N, ss, rfl, hP, hm, hN, g, hu0, hss, hs0, hs10, k⟩ := h
    have hu := hu_of hr
    have two : 2 ≤ sizeLine := by decide
    have hS := purse_live hP
    have pm : p ∈ [p] := List.mem_singleton.mpr rfl
    obtain ⟨ua, ux, rfl, hu1, hu2⟩ := dp_list hu0
    have hul : ux.length = ss.length := da_len hu2
    have hlow : ∀ s ∈ ss, ∀ x ∈ s, Low x := fun s hs => g.lows (hss s hs)
    have hsl : ∀ s ∈ ss, s.length ≤ 1000 := fun s hs => by have := (hss s hs).len g; omega
    refine ⟨_, (pss_cons (ps_set (i := 3) sc_l_widths_right.nd rfl (Or.inl rfl) (pe_def (c_l_net Y) (hr.mono (by decide)) (pa_cons (pv 1) pa_nil)))
    (pss_cons (ps_setLc (i := 4) (own := [("_law_start", 8)]) rfl sc_l_widths_right.nd rfl rfl (sw_true rfl rfl rfl (by decide +kernel)) (K_pil (K := K) rfl (pv 2)) (blkOk_by (own := [("_law_start", 8)]) (N := ["_law_purse_here", "_law_net_here", "_law_starts", "_law_made", "_law_dues", "_law_at", "_law_other", "_law_handed", "_law_start"]) (sc := defScope s_l_widths_right) (by decide +kernel)) (fun _ _ _ _ _ => (pg_name (i := 8) sc_l_widths_right.nd rfl (Or.inl rfl))) (fun _ _ _ _ _ => pts_nil) (fun _ _ _ _ _ => (pe_def (c_l_width_of Y) (hr.mono (by decide)) (pa_cons (pv 1) (pa_cons (pv 8) pa_nil)))))
    (pss_cons (ps_for PassesOwn.never rfl (K_pil (K := K) rfl (pe_op (K_cat (K := K) rfl) (pe_listRg rfl (by rfl) Y.n_list (prg_1 (by rfl) Y.n_range (pe_callB (K_len (K := K) rfl) (by rfl) Y.n_len (by decide +kernel) (pa_cons (pv 2) pa_nil)))) (pe_lst (pa_cons pe_int pa_nil)))) (pg_name (i := 5) sc_l_widths_right.nd rfl (Or.inl rfl))
    (pss_cons (ps_set (i := 7) sc_l_widths_right.nd rfl (Or.inl rfl) (pe_callTy (K_list (K := K) rfl) (by rfl) Y.n_list (by decide +kernel) (pa_cons (pe_ix (K_ixL (K := K) rfl) (pv 2) (pv 5) (fun _ _ => rfl)) pa_nil)))
    (pss_one (ps_if (pt_not (pt_val (pe_def (c_l_exact Y 8) (hr.mono (by decide)) (pa_cons (pe_lst (pa_cons (pe_def (c_width Y) (hr.mono (by decide)) (pa_cons (pv 3) (pa_cons (pv 7) pa_nil))) (pa_cons (pv 7) pa_nil))) (pa_cons (pe_lst (pa_cons (pe_ix (K_ixL (K := K) rfl) (pv 4) (pv 5) (fun _ _ => rfl)) (pa_cons (pe_ix (K_ixL (K := K) rfl) (pv 2) (pv 5) (fun _ _ => rfl)) pa_nil))) pa_nil))))) (pss_one (ps_ret pe_bl)) pss_nil))))
    (pss_cons (ps_set (i := 6) sc_l_widths_right.nd rfl (Or.inl rfl) (pe_callTy (K_list (K := K) rfl) (by rfl) Y.n_list (by decide +kernel) (pa_cons (pe_def (c_l_one_of Y) (hr.mono (by decide)) (pa_cons (pv 0) (pa_cons (pe_callB (call_sortT rfl (hu100 hr)) (by rfl) Y.n_sorted (by decide +kernel) (pa_cons (pe_frz (pe_def (c_l_reached Y) (hr.mono (by decide)) (pa_cons (pv 1) (pa_cons (pe_ix (K_ixL (K := K) rfl) (pv 2) pe_int (fun _ _ => rfl)) pa_nil)))) pa_nil)) pa_nil))) pa_nil)))
    (pss_one (ps_ret (pe_def (c_l_exact Y 8) (hr.mono (by decide)) (pa_cons (pe_lst (pa_cons (pe_defK (c2_width Y) kb_width (hr.mono (by decide)) (pk_cons (pv 3) (pk_cons (pv 6) pk_nil))) (pa_cons (pe_def (c_width Y) (hr.mono (by decide)) (pa_cons (pe_def (c_l_net Y) (hr.mono (by decide)) (pa_cons (pv 1) pa_nil)) (pa_cons (pe_ix (K_ixL (K := K) rfl) (pv 2) (pe_un un_neg pe_int) (fun _ _ => rfl)) pa_nil))) pa_nil))) (pa_cons (pe_lst (pa_cons (pe_ix (K_ixL (K := K) rfl) (pv 4) pe_int (fun _ _ => rfl)) (pa_cons (pe_ix (K_ixL (K := K) rfl) (pv 4) (pe_un un_neg pe_int) (fun _ _ => rfl)) pa_nil))) pa_nil))))))))), ?_⟩
    refine ⟨_, rfl, [p], v, N, rfl, hS, hN, g, fun n H1 k1 hn => ?_⟩
    refine ⟨_, rfl, ua, rfl, ⟨_, k1.same.seq (hid_le.seq hu1)⟩, fun D hD => ?_⟩
    refine lcS (K := K) (items := ss) (S := [p]) (walkD (DpAll.mono k1.hid0 hu2)) (fun s => .int (widthN N s : Int)) hD (k1.live hS) (by omega) (fun H' kp => kp.same.seq (k1.same.seq (hid_le.seq hu1))) ?_ ?_
    · rintro i s x1 Ha Hb Yes hi kp hL ⟨rfl, y⟩ yes
      have ms : Same (hid [p] H1) (hid (D :: [p]) Hb) := by
        rw [← hid_cons hD]
        exact kp.hid0
      refine ⟨rfl, _, rfl, _, rfl, D :: [p], v, x1, N, s, rfl, hL, (hN.mono k1.hid0).mono ms, g, Dp.mono ms (y s hi), hss s (List.mem_of_getElem? hi), fun H' w hw kk => ?_⟩
      rw [← widthN_eq hw]
      exact yes _ _ kk (.int _)
    intro H2 ys k2 hL2 hl2 hle2 da2 dp2
    have k02 := k1.trans k2
    have hn2 := hn.mono k2.hid0
    have da2' : DpAll K (hid [p] H2) ys (ss.map fun s => .int (widthN N s : Int)) := DpAll.mono hid_tail da2
    obtain ⟨D0, dx, eD, hdx, hda⟩ := dp_list dp2
    cases eD
    have hdl : dx.length = ss.length := da_len hda
    have duD : SqL K H2 D dx := hid_le.seq hdx
    -- list(range(len(starts))) + [0]
    refine ⟨_, rfl, ua, _, rfl, .inl (k02.same.seq (hid_le.seq hu1)), _, rfl, RgOk.of_le (by decide) (by rw [hul]; omega) (by decide) (by omega), fun q nq => ⟨by show 1 ≤ sizeLine; decide, fun q2 nq2 => ?_⟩⟩
    have kq : Kp [] H2 (upd H2 q (.lst (rgV 0 (ux.length : Int)))) := kp_new nq
    have hq : (upd H2 q (.lst (rgV 0 (ux.length : Int)))) q = some (.lst (rgV 0 (ux.length : Int))) := upd_same
    have qS : q ∉ [p] := not_mem_of hL2 nq
    generalize (upd H2 q (.lst (rgV 0 (ux.length : Int)))) = Hq at kq hq nq2 ⊢
    have kq2 : Kp [] Hq (upd Hq q2 (.lst [.int 0])) := kp_new nq2
    have hq2 : (upd Hq q2 (.lst [.int 0])) q2 = some (.lst [.int 0]) := upd_same
    have q2S : q2 ∉ [p] := not_mem_of (kq.live hL2) nq2
    have hqq := kq2.same _ _ hq
    generalize (upd Hq q2 (.lst [.int 0])) = Hr at kq2 hq2 hqq ⊢
    have k2r := kq.trans kq2
    have er : rgV 0 (ux.length : Int) = ((List.range ss.length).map fun j : Nat => (j : Int)).map L2.V.int := by
      unfold rgV
      rw [List.map_map, hul]
      have e0 : ((ss.length : Int) - 0).toNat = ss.length := by omega
      rw [e0]
      refine List.map_congr_left fun j _ => ?_
      show L2.V.int (0 + (j : Int)) = L2.V.int (j : Int)
      rw [Int.zero_add]
    have dints : ∀ {G : Hp} (l : List Int), DpAll K G (l.map L2.V.int) (l.map .int) := fun l => by
      induction l with
      | nil => exact .nil
      | cons x l ih => exact .cons (.int x) ih
    rw [er] at hqq
    refine cat_ans (k2r.live hL2) (.lst (.inl (.inl (hid_at hqq qS))) (dints _)) (.lst (.inl (.inl (hid_at hq2 q2S))) (dints [0])) (by rw [List.length_map, List.length_map, List.length_range]; show ss.length + 1 ≤ _; omega) fun q3 qx nq3 hqx dqx _ => ?_
    have ej : (((List.range ss.length).map fun j : Nat => (j : Int)).map PyData.int ++ [(0 : Int)].map PyData.int) = (((List.range ss.length).map fun j : Nat => (j : Int)) ++ [0]).map PyData.int := (List.map_append ..).symm
    rw [ej] at dqx
    have ex := da_ints dqx
    subst ex
    have hjs : ∀ z ∈ (((List.range ss.length).map fun j : Nat => (j : Int)) ++ [0]), ∃ j : Nat, j < ss.length ∧ z = (j : Int) := fun z hz => by
      rcases List.mem_append.mp hz with hz | hz
      · obtain ⟨j, hj, rfl⟩ := List.mem_map.mp hz
        exact ⟨j, List.mem_range.mp hj, rfl⟩
      · exact ⟨0, hs0, List.mem_singleton.mp hz⟩
    generalize (((List.range ss.length).map fun j : Nat => (j : Int)) ++ [0]) = js at dqx hjs ⊢
    have k2s : Kp [] H2 (upd Hr q3 (.lst (js.map L2.V.int))) := k2r.new nq3
    have hq3 : (upd Hr q3 (.lst (js.map L2.V.int))) q3 = some (.lst (js.map L2.V.int)) := upd_same
    generalize (upd Hr q3 (.lst (js.map L2.V.int))) = H3 at k2s hq3 ⊢
    have k03 := k02.trans k2s
    refine ⟨q3, rfl, ⟨_, .inl (.inl hq3)⟩, ?_⟩
    refine for_it (walkG (items := js) (g := L2.V.int)) (fun i σ H' => ∃ o5 o7 : Option L2.V, σ = [some (.ref p), some v, some (.ref ua), some (.ref n), some (.ref D), o5, none, o7, none] ∧ Kp [] H3 H') ⟨_, _, rfl, .refl⟩ (fun i σ H' _ ⟨_, _, _, kk⟩ => .inl (.inl (kk.same _ _ hq3))) ?_ ?_
    · rintro i x σ Ha Hb hi ⟨o5, o7, rfl, kk⟩ ⟨rfl, y⟩
      have hg := List.getElem?_eq_getElem hi
      obtain rfl := y _ hg
      obtain ⟨j, hj, ej⟩ := hjs _ (List.getElem_mem hi)
      rw [ej]
      have k2b := k2s.trans kk
      have k0b := k02.trans k2b
      obtain ⟨sv, hsv, hsd⟩ := da_get hu2 (List.getElem?_eq_getElem hj)
      obtain ⟨dv, hdv, hdd⟩ := da_get hda (List.getElem?_eq_getElem hj)
      have hset := hss _ (List.getElem_mem hj)
      have hsj := List.getElem_mem hj
      generalize ss[j] = sj at hsd hdd hset hsj
      obtain ⟨sa, rfl, hsa⟩ := dp_words hsd
      have ub : SqL K Hb ua ux := k0b.same.seq (hid_le.seq hu1)
      refine ⟨_, rfl, _, rfl, ua, _, _, _, rfl, rfl, ub, atI_nat (j := j) hsv, sa, _, rfl, .inl (k0b.same.seq (hid_le.seq hsa)), fun hd nhd => ?_⟩
      have kh : Kp [] Hb (upd Hb hd (.lst (sj.map L2.V.str))) := kp_new nhd
      have hhd : (upd Hb hd (.lst (sj.map L2.V.str))) hd = some (.lst (sj.map L2.V.str)) := upd_same
      have hdS : hd ∉ [p] := not_mem_of (k0b.live hS) nhd
      generalize (upd Hb hd (.lst (sj.map L2.V.str))) = Hc at kh hhd ⊢
      have k2c := k2b.trans kh
      have k0c := k02.trans k2c
      have dhd : Dp K (hid [p] Hc) (.ref hd) (eW sj) := words_dp (.inl (.inl (hid_at hhd hdS)))
      refine ⟨_, rfl, _, rfl, [p], .ref n, .ref hd, N, sj, rfl, k0c.live hS, hn2.mono k2c.hid0, g, dhd, hset, fun Hd w hw kd => ⟨_, rfl, two, fun l1 nl1 => ?_⟩⟩
      have ke : Kp [] Hd (upd Hd l1 (.lst [.int (w : Int), .ref hd])) := kp_new nl1
      have hl1 : (upd Hd l1 (.lst [.int (w : Int), .ref hd])) l1 = some (.lst [.int (w : Int), .ref hd]) := upd_same
      have l1S : l1 ∉ [p] := not_mem_of (kd.live (k0c.live hS)) nl1
      generalize (upd Hd l1 (.lst [.int (w : Int), .ref hd])) = He at ke hl1 ⊢
      have kce := kd.trans ke
      have k2e := k2c.trans kce
      have k0e := k02.trans k2e
      refine ⟨_, rfl, _, rfl, D, _, _, _, rfl, rfl, k2e.same.seq duD, atI_nat (j := j) hdv, _, rfl, _, rfl, ua, _, _, _, rfl, rfl, k0e.same.seq (hid_le.seq hu1), atI_nat (j := j) hsv, two, fun l2 nl2 => ?_⟩
      have kf : Kp [] He (upd He l2 (.lst [dv, .ref sa])) := kp_new nl2
      have hl2' : (upd He l2 (.lst [dv, .ref sa])) l2 = some (.lst [dv, .ref sa]) := upd_same
      have l2S : l2 ∉ [p] := not_mem_of (k0e.live hS) nl2
      generalize (upd He l2 (.lst [dv, .ref sa])) = Hf at kf hl2' ⊢
      have k2f := k2e.trans kf
      have k0f := k02.trans k2f
      have ew := widthN_eq hw
      subst ew
      refine ⟨[p], _, _, True, rfl, k0f.live hS, exact_data (d := .list [.int (widthN N sj : Int), eW sj]) (.lst (.inl (.inl (hid_at (kf.same _ _ hl1) l1S))) (.cons (.int _) (.cons (Dp.mono (kce.trans kf).hid0 dhd) .nil))) (.lst (.inl (.inl (hid_at hl2' l2S))) (.cons (Dp.mono k2f.hid0 hdd) (.cons (Dp.mono k0f.hid0 hsd) .nil))) (wid_fine (hlow _ hsj) (hsl _ hsj)), fun bb Hg hbb kg => ?_⟩
      rw [hbb.mpr True.intro]
      refine ⟨true, rfl, if_no rfl ?_⟩
      exact ⟨_, _, rfl, kk.trans (((kh.trans kce).trans kf).trans kg)⟩
    · rintro σ Ha ⟨o5, o7, rfl, kk⟩
      have k2a := k2s.trans kk
      have k0a := k02.trans k2a
      have Pa : Purse Ha p m := hP.kp k0a (by simp)
      obtain ⟨sv, hsv, hsd⟩ := da_get hu2 (List.getElem?_eq_getElem hs0)
      obtain ⟨dv, hdv, hdd⟩ := da_get hda (List.getElem?_eq_getElem hs0)
      have hset := hss _ (List.getElem_mem hs0)
      generalize ss[0] = s0 at hsd hdd hset
      -- another of the class
      refine ⟨_, rfl, _, rfl, _, rfl, ua, _, 0, _, rfl, rfl, k0a.same.seq (hid_le.seq hu1), atI_nat (j := 0) hsv, [p], v, sv, N, s0, rfl, k0a.live hS, hN.mono k0a.hid0, g, Dp.mono k0a.hid0 hsd, hset, fun d Hb f kb nd hd lay ok => ?_⟩
      refine ⟨d, _, rfl, hd, True.intro, fun od => ?_⟩
      have kab : Kp [] Ha (upd Hb d (.frz od (.dT (eF f)))) := kb.put nd
      have few := ok.few g
      refine ⟨d, eF f, keysF f, rfl, .inr ⟨od, upd_same⟩, by unfold eF keysF; rw [List.map_map, List.map_map]; rfl, fun sl bs nsl hbs hb => ?_⟩
      generalize (upd Hb d (.frz od (.dT (eF f)))) = Hc at kab hb nsl ⊢
      have Pc : Purse Hc p m := Pa.kp kab (by simp)
      have hzb : ∀ b ∈ bs.mergeSort (leD encT), Hc b.1 = some (.tup (b.2.map L2.V.str)) := fun b h => hb b ((List.mergeSort_perm ..).mem_iff.mp h)
      have hzk : ∀ b ∈ bs.mergeSort (leD encT), b.2 ∈ keysF f := fun b h => by
        rw [← hbs]
        exact List.mem_map.mpr ⟨b, (List.mergeSort_perm ..).mem_iff.mp h, rfl⟩
      have hzl : (bs.mergeSort (leD encT)).length = f.length := by
        rw [(List.mergeSort_perm bs (leD encT)).length_eq]
        have q := congrArg List.length hbs
        rwa [List.length_map, keysF, List.length_map] at q
      have f0 : 0 < f.length := by
        have q := List.length_pos_of_mem lay.start
        rwa [keysF, List.length_map] at q
      generalize bs.mergeSort (leD encT) = zs at hzb hzk hzl nsl ⊢
      have kc : Kp [] Hc (upd Hc sl (.lst (zs.map fun b => L2.V.ref b.1))) := kp_new nsl
      have hsl' : (upd Hc sl (.lst (zs.map fun b => L2.V.ref b.1))) sl = some (.lst (zs.map fun b => L2.V.ref b.1)) := upd_same
      have slS : sl ∉ [p] := not_mem_of (purse_live Pc) nsl
      have hzd : DpAll K (hid [p] Hc) (zs.map fun b => L2.V.ref b.1) (zs.map fun b : Addr × List Str => eK b.2) := keys_dp Pc.noTup hzb
      generalize (upd Hc sl (.lst (zs.map fun b => L2.V.ref b.1))) = Hd at kc hsl' ⊢
      have Pd : Purse Hd p m := Pc.kp kc (by simp)
      refine ⟨[p], p, m, _, [.list (zs.map fun b : Addr × List Str => eK b.2)], rfl, purse_live Pd, pm, Pd, by omega, .cons (.lst (.inl (.inl (hid_at hsl' slS))) (DpAll.mono kc.hid0 hzd)) .nil, ⟨_, rfl, by rw [List.length_map]; omega, by rw [List.length_map]; omega⟩, fun ov He od2 ke Pe ⟨es, ees, hes⟩ hov => ?_⟩
      have q1 : zs.map (fun b : Addr × List Str => eK b.2) = es := PyData.list.inj (List.cons.inj ees).1
      rw [← q1] at hes
      obtain ⟨b0, hb0, rfl⟩ := List.mem_map.mp hes
      have hk0 := hzk b0 hb0
      generalize b0.2 = k0' at hov hk0
      obtain ⟨ta, txs, rfl, hta, htx⟩ := dp_tuple hov
      have etx := da_strs htx
      subst etx
      refine ⟨ta, _, rfl, .inr (Same.tup hid_le hta), fun ol nol => ?_⟩
      have kol : Kp [] He (upd He ol (.lst (k0'.map L2.V.str))) := kp_new nol
      have hol : (upd He ol (.lst (k0'.map L2.V.str))) ol = some (.lst (k0'.map L2.V.str)) := upd_same
      have olS : ol ∉ [p] := not_mem_of (purse_live Pe) nol
      generalize (upd He ol (.lst (k0'.map L2.V.str))) = Hf at kol hol ⊢
      have Pf := Pe.kp kol (by simp)
      have kaf : Kp [p] Ha Hf := ((kab.trans kc).nil.trans ke).trans kol.nil
      have hset2 : IsSet N k0' := ok.sets _ hk0
      have dol : Dp K (hid [p] Hf) (.ref ol) (eW k0') := words_dp (.inl (.inl (hid_at hol olS)))
      have F2 : Same (hid [p] H2) (hid [p] Hf) := k2a.hid0.trans (kaf.hid (pin pm))
      have F0 : Same (hid [p] H) (hid [p] Hf) := k02.hid0.trans F2
      refine ⟨_, rfl, _, rfl, [p], .ref n, .ref ol, N, k0', rfl, purse_live Pf, hn2.mono F2, g, dol, hset2, fun Hg w1 hw1 kg => ?_⟩
      have ew1 : w1 = widthN N s0 := (widthN_eq (width_move g hset lay hk0 hw1)).symm
      subst ew1
      have Pg := Pf.kp kg (by simp)
      have lz : ss.length - 1 < ss.length := by omega
      obtain ⟨sz, hsz, hszd⟩ := da_get hu2 (List.getElem?_eq_getElem lz)
      obtain ⟨dz, hdz, hdzd⟩ := da_get hda (List.getElem?_eq_getElem lz)
      have hsetz := hss _ (List.getElem_mem lz)
      generalize ss[ss.length - 1] = sz' at hszd hdzd hsetz
      refine ⟨_, rfl, [p], v, N, rfl, purse_live Pg, hN.mono (F0.trans kg.hid0), g, fun n2 Hh kh hn2' => ?_⟩
      have kfh := kg.trans kh
      refine ⟨_, rfl, 1, rfl, ua, _, _, _, rfl, rfl, hid_le.seq ((F0.trans kfh.hid0).seq hu1), (atI_last (by omega)).trans (by rw [hul]; exact hsz), [p], .ref n2, sz, N, sz', rfl, kfh.live (purse_live Pf), hn2', g, Dp.mono (F0.trans kfh.hid0) hszd, hsetz, fun Hi w2 hw2 ki => ?_⟩
      have ew2 := widthN_eq hw2
      subst ew2
      have kfi := kfh.trans ki
      have Pi := Pf.kp kfi (by simp)
      refine ⟨two, fun l1 nl1 => ?_⟩
      have ke1 : Kp [] Hi (upd Hi l1 (.lst [.int (widthN N s0 : Int), .int (widthN N sz' : Int)])) := kp_new nl1
      have hl1 : (upd Hi l1 (.lst [.int (widthN N s0 : Int), .int (widthN N sz' : Int)])) l1 = some (.lst [.int (widthN N s0 : Int), .int (widthN N sz' : Int)]) := upd_same
      have l1S : l1 ∉ [p] := not_mem_of (purse_live Pi) nl1
      generalize (upd Hi l1 (.lst [.int (widthN N s0 : Int), .int (widthN N sz' : Int)])) = Hj at ke1 hl1 ⊢
      have kfj := kfi.trans ke1
      have F2j := F2.trans kfj.hid0
      have duJ : SqL K Hj D dx := hid_le.seq (F2j.seq hdx)
      refine ⟨_, rfl, D, _, 0, _, rfl, rfl, duJ, atI_nat (j := 0) hdv, _, rfl, 1, rfl, D, _, _, _, rfl, rfl, duJ, (atI_last (by omega)).trans (by rw [hdl]; exact hdz), two, fun l2 nl2 => ?_⟩
      have ke2 : Kp [] Hj (upd Hj l2 (.lst [dv, dz])) := kp_new nl2
      have hl2' : (upd Hj l2 (.lst [dv, dz])) l2 = some (.lst [dv, dz]) := upd_same
      have Pj := Pf.kp kfj (by simp)
      have l2S : l2 ∉ [p] := not_mem_of (purse_live Pj) nl2
      generalize (upd Hj l2 (.lst [dv, dz])) = Hk at ke2 hl2' ⊢
      have kfk := kfj.trans ke2
      have Pk := Pf.kp kfk (by simp)
      refine ⟨[p], _, _, True, rfl, purse_live Pk, exact_data (d := .list [.int (widthN N s0 : Int), .int (widthN N sz' : Int)]) (.lst (.inl (.inl (hid_at (ke2.same _ _ hl1) l1S))) (.cons (.int _) (.cons (.int _) .nil))) (.lst (.inl (.inl (hid_at hl2' l2S))) (.cons (Dp.mono (F2j.trans ke2.hid0) hdd) (.cons (Dp.mono (F2j.trans ke2.hid0) hdzd) .nil))) two_fine, fun bb Hl hbb kl => ?_⟩
      rw [hbb.mpr True.intro]
      exact k Hl ((k0a.nil.trans kaf).trans (kfk.trans kl).nil) ((Pf.kp (kfk.trans kl) (by simp)).mono (by omega))
end
end K41
namespace K41
open PySem PySem.Spec PyProof.Rows L2 PySem.W
theorem cut_take (xs : List V) (n : Nat) : cutV xs none (some (n : Int)) = xs.take n := by
  unfold cutV
  have e0 : HT.sIx xs.length 0 none = 0 := rfl
  have e1 : HT.sIx xs.length xs.length (some (n : Int)) = min n xs.length := by
    unfold HT.sIx
    simp
    omega
  rw [e0, e1, List.drop_zero, Nat.sub_zero]
  by_cases h : n ≤ xs.length
  · rw [Nat.min_eq_left h]
  · rw [Nat.min_eq_right (by omega), List.take_of_length_le (Nat.le_refl _), List.take_of_length_le (by omega)]
theorem da_cut {K : PySem.W.Frag} {H : Hp} : ∀ {vs : List V} {ds : List PyData} (n : Nat), DpAll K H vs ds → DpAll K H (vs.take n) (ds.take n)
  | _, _, 0, _ => by
    rw [List.take_zero, List.take_zero]
    exact .nil
  | _, _, n + 1, .nil => .nil
  | _, _, n + 1, .cons h t => .cons h (da_cut n t)
theorem NoTup.cons {S : List Addr} {H : Hp} {a : Addr} {xs : List V} (h : NoTup S H) (e : H a = some (.lst xs)) : NoTup (a :: S) H := fun b hb => by
  rcases List.mem_cons.mp hb with rfl | hb
  · exact ⟨xs, e⟩
  · exact h b hb
/-- sorted(layers), for one_of -/
theorem sorted_keys {bs : List (Addr × List Str)} {f : Fd} {H : Hp} (hbs : bs.map (·.2) = keysF f) (hb : ∀ b ∈ bs, H b.1 = some (.tup (b.2.map V.str))) :
    (∀ b ∈ bs.mergeSort (leD encT), H b.1 = some (.tup (b.2.map V.str)) ∧ b.2 ∈ keysF f) ∧ (bs.mergeSort (leD encT)).length = f.length := by
  refine ⟨fun b h => ⟨hb b ((List.mergeSort_perm ..).mem_iff.mp h), ?_⟩, ?_⟩
  · rw [← hbs]
    exact List.mem_map.mpr ⟨b, (List.mergeSort_perm ..).mem_iff.mp h, rfl⟩
  · rw [(List.mergeSort_perm bs (leD encT)).length_eq]
    have q := congrArg List.length hbs
    rwa [List.length_map, keysF, List.length_map] at q
theorem eF_keys (f : Fd) : (eF f).map (·.1) = (keysF f).map fun k => k.map Sum.inr := by
  unfold eF keysF
  rw [List.map_map, List.map_map]
  rfl
theorem one_key {zs : List (Addr × List Str)} {d : PyData} (h : rOne [.list (zs.map fun b : Addr × List Str => eK b.2)] d) : ∃ b ∈ zs, d = eK b.2 := by
  obtain ⟨es, ees, hes⟩ := h
  have q1 : zs.map (fun b : Addr × List Str => eK b.2) = es := PyData.list.inj (List.cons.inj ees).1
  rw [← q1] at hes
  obtain ⟨b0, hb0, rfl⟩ := List.mem_map.mp hes
  exact ⟨b0, hb0, rfl⟩
theorem deed_fine {l : List Int} {b : Bool} (h : l.length ≤ 1000) : Fine 60 (.list [.list (l.map .int), .bool b]) ∧ slim (.list [.list (l.map .int), .bool b]) = true ∧ (PyData.list [.list (l.map .int), .bool b]).depth < 8 := by
  have q1 : Fine 1 (.list (l.map .int)) := fine_list fun x _ => fine_int
  have q : Fine 2 (.list [.list (l.map .int), .bool b]) := fine_lst fun x hx => by
    rcases List.mem_cons.mp hx with rfl | hx
    · exact q1
    · rw [List.mem_singleton.mp hx]
      exact fine_bl.mono (by decide)
  refine ⟨q.mono (by decide), slim_list.mpr ⟨by show 2 ≤ 1000; decide, fun x hx => ?_⟩, by have := q.dep; omega⟩
  rcases List.mem_cons.mp hx with rfl | hx
  · refine slim_list.mpr ⟨by rw [List.length_map]; exact h, fun z hz => ?_⟩
    obtain ⟨i, _, rfl⟩ := List.mem_map.mp hz
    rfl
  · rw [List.mem_singleton.mp hx]
    rfl
section
variable {P : Program} {w : World} {K : PySem.W.Frag} {mg : Str → Option Value} {base : Heap} {C : Addr}
def spFIT (K : PySem.W.Frag) (C : Addr) : Sp := fun vs H Q _ => ∃ (p : Addr) (m : Nat) (v n u1 u2 : L2.V) (N : Net) (s1 s2 : List Str), vs = [.ref p, v, n, u1, u2] ∧ Purse H p m ∧ m + 10 ≤ 1000000000 ∧ LNet K (hid [p] H) v N ∧ NetV K C (hid [p] H) n N ∧ Good N ∧ Dp K (hid [p] H) u1 (eW s1) ∧ Dp K (hid [p] H) u2 (eW s2) ∧ IsSet N s1 ∧ IsSet N s2 ∧
  ∀ H', Kp [p] H H' → Purse H' p (m + 10) → Q (.bl true) H'
theorem c_l_far_in_turn (Y : Env K mg C) : Def P w K mg base (Str.ofString "_law_far_in_turn") 9 ["_law_purse_here", "_law_net_here", "_law_made", "_law_first", "_law_second"] (spFIT K C) := by
  refine def_mk Y.t_l_far_in_turn sc_l_far_in_turn bb_l_far_in_turn (fun vs H Q E h => ?_) (fun f cdv A outer s H vs Q E hr h => ?_)
  · obtain ⟨p, m, v, n, u1, u2, N, s1, s2, rfl, _⟩ := h
    rfl
  · obtain ⟨p, m, v, n, u1, u2, N, s1, s2, rfl, hP, hm, hN, hn, g, hu1, hu2, hs1, hs2, k⟩ := h
    have hu := hu_of hr
    have two : 2 ≤ sizeLine := by decide
    have hS := purse_live hP
    have pm : p ∈ [p] := List.mem_singleton.mpr rfl
    refine ⟨_, (pss_cons (ps_asg (pe_tup (pa_cons (pe_frz (pe_def (c_l_reached Y) (hr.mono (by decide)) (pa_cons (pv 1) (pa_cons (pv 3) pa_nil)))) (pa_cons (pe_listVals rfl (pe_frz (pe_def (c_l_reached Y) (hr.mono (by decide)) (pa_cons (pv 1) (pa_cons (pv 4) pa_nil)))) (by rfl) Y.n_list) pa_nil))) (K_pgtup (K := K) (n := 2) rfl rfl (pgs_cons (pg_name (i := 10) sc_l_far_in_turn.nd rfl (Or.inr rfl)) (pgs_cons (pg_name (i := 11) sc_l_far_in_turn.nd rfl (Or.inr rfl)) pgs_nil))))
    (pss_cons (ps_set (i := 5) sc_l_far_in_turn.nd rfl (Or.inl rfl) (pe_maxVals rfl (pv 10) (by rfl) Y.n_max))
    (pss_cons (ps_set (i := 6) sc_l_far_in_turn.nd rfl (Or.inl rfl) (pe_op (K_cat (K := K) rfl) (pe_op (K_cat (K := K) rfl) (pe_lc (own := [("_law_turn", 14)]) rfl sc_l_far_in_turn.nd (pi_range1 rfl Y.n_range (pa_cons pe_int pa_nil)) (blkOk_by (own := [("_law_turn", 14)]) (N := ["_law_purse_here", "_law_net_here", "_law_made", "_law_first", "_law_second", "_law_most", "_law_values", "_law_due", "_law_value", "_law_late", "_law_layers", "_law_others", "_law_told", "_law_number", "_law_turn"]) (sc := defScope s_l_far_in_turn) (by decide +kernel)) (fun _ _ _ _ _ => (pg_name (i := 14) sc_l_far_in_turn.nd rfl (Or.inl rfl))) (fun _ _ _ _ _ => pts_nil) (fun _ _ _ _ _ => (pe_callTy (K_list (K := K) rfl) (by rfl) Y.n_list (by decide +kernel) (pa_cons (pe_def (c_l_one_of Y) (hr.mono (by decide)) (pa_cons (pv 0) (pa_cons (pe_callB (call_sortT rfl (hu100 hr)) (by rfl) Y.n_sorted (by decide +kernel) (pa_cons (pv 10) pa_nil)) pa_nil))) pa_nil)))) (pe_slice (K_slL (K := K) rfl) (pe_def (c_l_places Y) (hr.mono (by decide)) (pa_cons (pv 10) (pa_cons (pv 5) pa_nil))) po_none (po_some pe_int))) (pe_slice (K_slL (K := K) rfl) (pe_def (c_l_places Y) (hr.mono (by decide)) (pa_cons (pv 10) (pa_cons (pe_op op_fdivW (pv 5) pe_int) pa_nil))) po_none (po_some pe_int))))
    (pss_cons (ps_setLc (i := 7) (own := [("_law_number", 13)]) rfl sc_l_far_in_turn.nd rfl rfl (sw_true rfl rfl rfl (by decide +kernel)) (pi_range1 rfl Y.n_range (pa_cons (pe_op op_add (pe_callB (K_max (K := K) rfl rfl) (by rfl) Y.n_max (by decide +kernel) (pa_cons (pv 11) pa_nil)) pe_int) pa_nil)) (blkOk_by (own := [("_law_number", 13)]) (N := ["_law_purse_here", "_law_net_here", "_law_made", "_law_first", "_law_second", "_law_most", "_law_values", "_law_due", "_law_value", "_law_late", "_law_layers", "_law_others", "_law_told", "_law_number", "_law_turn"]) (sc := defScope s_l_far_in_turn) (by decide +kernel)) (fun _ _ _ _ _ => (pg_name (i := 13) sc_l_far_in_turn.nd rfl (Or.inl rfl))) (fun _ _ _ _ _ => pts_nil) (fun _ _ _ _ _ => (K_bm (K := K) rfl PySem.F.plainAttrs_list PySem.F.slot_list_count PySem.F.type_list_count (K_count (K := K) rfl) (pv 11) (pa_cons (pv 13) pa_nil))))
    (pss_cons (ps_for PassesOwn.never rfl (K_pil (K := K) rfl (pv 6)) (pg_name (i := 8) sc_l_far_in_turn.nd rfl (Or.inl rfl))
    (pss_cons (ps_set (i := 12) sc_l_far_in_turn.nd rfl (Or.inl rfl) (pe_lst (pa_cons (pe_def (c_by_deeds Y) (hr.mono (by decide)) (pa_cons (pv 2) (pa_cons (pv 4) pa_nil))) (pa_cons (pe_def (c_is_farthest Y) (hr.mono (by decide)) (pa_cons (pv 2) (pa_cons (pv 3) (pa_cons (pv 8) pa_nil)))) pa_nil))))
    (pss_one (ps_if (pt_not (pt_val (pe_def (c_l_exact Y 8) (hr.mono (by decide)) (pa_cons (pv 12) (pa_cons (pe_lst (pa_cons (pv 7) (pa_cons (pe_cmpR op_eq (pe_dget (hu_of hr) (pv 10) (pe_callTy (K_tuple (K := K) rfl) (by rfl) Y.n_tuple (by decide +kernel) (pa_cons (pv 8) pa_nil)) (fun _ _ => rfl)) (pv 5) (nomark _)) pa_nil))) pa_nil))))) (pss_one (ps_ret pe_bl)) pss_nil))))
    (pss_cons (ps_set (i := 9) sc_l_far_in_turn.nd rfl (Or.inl rfl) (pe_def (c_farthest Y) (hr.mono (by decide)) (pa_cons (pv 2) (pa_cons (pv 4) pa_nil))))
    (pss_one (ps_ret (pe_def (c_l_exact Y 8) (hr.mono (by decide)) (pa_cons (pe_lst (pa_cons (pe_def (c_is_farthest Y) (hr.mono (by decide)) (pa_cons (pv 2) (pa_cons (pv 3) (pa_cons (pe_ix (K_ixL (K := K) rfl) (pv 6) pe_int (fun _ _ => rfl)) pa_nil)))) (pa_cons (pe_def (c_is_farthest Y) (hr.mono (by decide)) (pa_cons (pv 2) (pa_cons (pv 4) (pa_cons (pv 9) pa_nil)))) pa_nil))) (pa_cons (pe_lst (pa_cons pe_bl (pa_cons pe_bl pa_nil))) pa_nil))))))))))), ?_⟩
    refine ⟨_, rfl, _, rfl, [p], v, u1, N, s1, rfl, hS, hN, g, hu1, hs1, fun d H1 f k1 nd hd lay ok => ?_⟩
    refine ⟨d, _, rfl, hd, True.intro, fun od => ?_⟩
    have kA : Kp [] H (upd H1 d (.frz od (.dT (eF f)))) := k1.put nd
    have dA : (upd H1 d (.frz od (.dT (eF f)))) d = some (.frz od (.dT (eF f))) := upd_same
    generalize (upd H1 d (.frz od (.dT (eF f)))) = HA at kA dA ⊢
    refine ⟨_, rfl, _, rfl, [p], v, u2, N, s2, rfl, kA.live hS, hN.mono kA.hid0, g, Dp.mono kA.hid0 hu2, hs2, fun d2 H2 f2 k2 nd2 hd2 lay2 ok2 => ?_⟩
    refine ⟨d2, _, rfl, hd2, True.intro, fun od2 => ?_⟩
    have kB : Kp [] HA (upd H2 d2 (.frz od2 (.dT (eF f2)))) := k2.put nd2
    have dB : (upd H2 d2 (.frz od2 (.dT (eF f2)))) d2 = some (.frz od2 (.dT (eF f2))) := upd_same
    generalize (upd H2 d2 (.frz od2 (.dT (eF f2)))) = HB at kB dB ⊢
    refine ⟨d2, _, rfl, .inr ⟨od2, dB⟩, fun ol nol => ⟨two, fun tp ntp => ?_⟩⟩
    rw [vals_eF] at ntp ⊢
    have kC : Kp [] HB (upd HB ol (.lst (((numsF f2).map fun n : Nat => (n : Int)).map L2.V.int))) := kp_new nol
    have olC : (upd HB ol (.lst (((numsF f2).map fun n : Nat => (n : Int)).map L2.V.int))) ol = some (.lst (((numsF f2).map fun n : Nat => (n : Int)).map L2.V.int)) := upd_same
    generalize (upd HB ol (.lst (((numsF f2).map fun n : Nat => (n : Int)).map L2.V.int))) = HC at kC olC ntp ⊢
    refine ⟨tp, _, rfl, .inl (.inl upd_same), rfl, _, _, rfl, _, _, rfl, rfl, ?_⟩
    have kD : Kp [] HC (upd HC tp (.tup [.ref d, .ref ol])) := kp_new ntp
    generalize (upd HC tp (.tup [.ref d, .ref ol])) = HD at kD ⊢
    have kAD : Kp [] HA HD := (kB.trans kC).trans kD
    have k0D := kA.trans kAD
    have dD : HD d = some (.frz od (.dT (eF f))) := kAD.same _ _ dA
    have olD := kD.same _ _ olC
    have olS : ol ∉ [p] := not_mem_of ((kA.trans kB).live hS) nol
    have hne := keys_ne lay.start
    have hne2 := keys_ne lay2.start
    have few := ok.few g
    have few2 := ok2.few g
    refine ⟨_, rfl, d, eF f, _, rfl, .inr ⟨od, dD⟩, vals_eF f, fun e => hne (List.map_eq_nil_iff.mp e), fun mm hmm hle => ?_⟩
    have em := most_cast hne hmm hle
    subst em
    have em : (mostL (numsF f) : Int) = (mostF f : Int) := rfl
    rw [em]
    have PD : Purse HD p m := hP.kp k0D (by simp)
    -- the values
    refine ⟨2, rfl, by decide, by decide, fun D hD => ?_⟩
    have hpD : p ≠ D := PD.ne hD
    refine lcR2 (K := K) (S := [p]) (T := [p]) (n := (2 : Int).toNat) (tt := tYes) walk_range (fun i H' => Purse H' p (m + i)) (fun i ds => ∃ ks : List (List Str), ds = ks.map eW ∧ ks.length = i ∧ ∀ x ∈ ks, x ∈ keysF f) hD (pin pm) (purse_live PD) (by decide) (fun _ _ => trivial) ⟨[], rfl, rfl, by simp⟩ PD (fun i H' o h => h.upd hpD) ?_ ?_
    · rintro i x Ha Hb ds Yes No hi kp hL ⟨acc, hacc⟩ hPi ⟨ks, rfl, hkl, hkk⟩ ⟨rfl, y⟩ yes no
      have dpn : d ∉ [p] := fun z => by
        obtain ⟨xs, q⟩ := PD.noTup d z
        rw [dD] at q
        cases q
      have db : Hb d = some (.frz od (.dT (eF f))) := kp.at dpn dD
      refine ⟨rfl, ?_⟩
      refine if_yes (b := true) (B := No Hb) rfl ?_
      refine ⟨_, rfl, _, rfl, d, eF f, keysF f, rfl, .inr ⟨od, db⟩, eF_keys f, fun sl bs nsl hbs hb => ?_⟩
      obtain ⟨hz, hzl⟩ := sorted_keys hbs hb
      generalize bs.mergeSort (leD encT) = zs at hz hzl nsl ⊢
      have NT : NoTup (D :: [p]) Hb := hPi.noTup.cons hacc
      have kc : Kp [] Hb (upd Hb sl (.lst (zs.map fun b => L2.V.ref b.1))) := kp_new nsl
      have hsl : (upd Hb sl (.lst (zs.map fun b => L2.V.ref b.1))) sl = some (.lst (zs.map fun b => L2.V.ref b.1)) := upd_same
      have slS : sl ∉ D :: [p] := not_mem_of hL nsl
      have hzd : DpAll K (hid (D :: [p]) Hb) (zs.map fun b => L2.V.ref b.1) (zs.map fun b : Addr × List Str => eK b.2) := keys_dp NT fun b hb => (hz b hb).1
      generalize (upd Hb sl (.lst (zs.map fun b => L2.V.ref b.1))) = Hc at kc hsl ⊢
      have f0 : 0 < f.length := by
        have q := List.length_pos_of_mem lay.start
        rwa [keysF, List.length_map] at q
      refine ⟨D :: [p], p, m + i, _, [.list (zs.map fun b : Addr × List Str => eK b.2)], rfl, kc.live hL, List.mem_cons_of_mem _ pm, hPi.kp kc (by simp), by have : i < 2 := hi; omega, .cons (.lst (.inl (.inl (hid_at hsl slS))) (DpAll.mono kc.hid0 hzd)) .nil, ⟨_, rfl, by rw [List.length_map]; omega, by rw [List.length_map]; omega⟩, fun ov He od2 ke Pe hr3 hov => ?_⟩
      obtain ⟨b0, hb0, rfl⟩ := one_key hr3
      have hk0 := (hz b0 hb0).2
      generalize b0.2 = k0 at hov hk0
      obtain ⟨ta, txs, rfl, hta, htx⟩ := dp_tuple hov
      have etx := da_strs htx
      subst etx
      refine ⟨ta, _, rfl, .inr (Same.tup hid_le hta), fun o2 no2 => ?_⟩
      have L2e : Live (D :: [p]) He := ke.live (kc.live hL)
      refine yes _ _ (eW k0) ((kc.nil.trans ke).trans (kp_new no2)) (Pe.kp (kp_new (T := []) no2) (by simp)) (words_dp (.inl (.inl (hid_at upd_same (not_mem_of L2e no2))))) ⟨ks ++ [k0], by rw [List.map_append]; rfl, by rw [List.length_append, hkl]; rfl, fun z hz => ?_⟩
      rcases List.mem_append.mp hz with hz | hz
      · exact hkk z hz
      · rw [List.mem_singleton.mp hz]
        exact hk0
    rintro HE ys ds kE hLE PE ⟨ks, rfl, hkl, hkk⟩ hlE hleE daE dpE
    have dpn : d ∉ [p] := fun z => by
      obtain ⟨xs, q⟩ := PD.noTup d z
      rw [dD] at q
      cases q
    have dE : HE d = some (.frz od (.dT (eF f))) := kE.at dpn dD
    refine ⟨_, rfl, _, rfl, [p], d, od, (mostF f : Int), N, f, rfl, purse_live PE, dE, g, ok, fun v3 H3 ks3 k3 hks3 hl3 hv3 => ?_⟩
    obtain ⟨a3, x3, rfl, ha3, hx3⟩ := dp_list hv3
    refine ⟨1, rfl, a3, x3, rfl, hid_le.seq ha3, fun q nq => ?_⟩
    have ec3 : cutV x3 none (some 1) = x3.take 1 := cut_take x3 1
    rw [ec3]
    have k3' : Kp [] H3 (upd H3 q (.lst (x3.take 1))) := kp_new nq
    have hq3 : (upd H3 q (.lst (x3.take 1))) q = some (.lst (x3.take 1)) := upd_same
    have P3 := PE.kp k3 (by simp)
    have qS : q ∉ [p] := not_mem_of (purse_live P3) nq
    generalize (upd H3 q (.lst (x3.take 1))) = H4 at k3' hq3 ⊢
    have kE4 := k3.trans k3'
    have P4 := PE.kp kE4 (by simp)
    have dq : Dp K (hid [p] H4) (.ref q) (.list ((ks3.take 1).map eW)) := .lst (.inl (.inl (hid_at hq3 qS))) (DpAll.mono k3'.hid0 (by rw [List.map_take]; exact da_cut 1 hx3))
    refine cat_ans (purse_live P4) (Dp.mono kE4.hid0 dpE) dq (by rw [List.length_map, List.length_map, List.length_take]; omega) fun c1 xs1 nc1 hl1 da1 dp1 => ?_
    rw [← List.map_append] at dp1
    have k5 : Kp [] H4 (upd H4 c1 (.lst xs1)) := kp_new nc1
    generalize (upd H4 c1 (.lst xs1)) = H5 at k5 dp1 ⊢
    have kE5 := kE4.trans k5
    refine ⟨_, rfl, _, rfl, _, _, rfl, rfl, ⟨by decide, by decide⟩, [p], d, od, (mostF f : Int) / 2, N, f, rfl, purse_live (PE.kp kE5 (by simp)), kE5.same _ _ dE, g, ok, fun v6 H6 ks6 k6 hks6 hl6 hv6 => ?_⟩
    obtain ⟨a6, x6, rfl, ha6, hx6⟩ := dp_list hv6
    refine ⟨1, rfl, a6, x6, rfl, hid_le.seq ha6, fun q7 nq7 => ?_⟩
    have ec6 : cutV x6 none (some 1) = x6.take 1 := cut_take x6 1
    rw [ec6]
    have k7 : Kp [] H6 (upd H6 q7 (.lst (x6.take 1))) := kp_new nq7
    have hq7 : (upd H6 q7 (.lst (x6.take 1))) q7 = some (.lst (x6.take 1)) := upd_same
    have kE6 := kE5.trans k6
    have q7S : q7 ∉ [p] := not_mem_of (purse_live (PE.kp kE6 (by simp))) nq7
    generalize (upd H6 q7 (.lst (x6.take 1))) = H7 at k7 hq7 ⊢
    have kE7 := kE6.trans k7
    have P7 := PE.kp kE7 (by simp)
    have dq7 : Dp K (hid [p] H7) (.ref q7) (.list ((ks6.take 1).map eW)) := .lst (.inl (.inl (hid_at hq7 q7S))) (DpAll.mono k7.hid0 (by rw [List.map_take]; exact da_cut 1 hx6))
    refine cat_ans (purse_live P7) (Dp.mono (k6.trans k7).hid0 dp1) dq7 (by rw [List.length_map, List.length_map, List.length_append, List.length_take, List.length_take]; omega) fun c2 xs2 nc2 hl2 da2 dp2 => ?_
    rw [← List.map_append] at dp2 da2
    obtain ⟨t0, ht0, et0⟩ := most_key ok lay.start
    have h30 : 0 < ks3.length := List.length_pos_of_mem ((hks3 t0).mpr ⟨ht0, by rw [et0]⟩)
    obtain ⟨h31, h32⟩ := (hks3 ks3[0]).mp (List.getElem_mem h30)
    have hv2 : ((ks ++ ks3.take 1) ++ ks6.take 1)[2]? = some ks3[0] := by
      have e2 : ks.length = 2 := hkl
      rw [List.append_assoc, List.getElem?_append_right (by omega), e2]
      show (ks3.take 1 ++ ks6.take 1)[0]? = _
      rw [List.getElem?_append_left (by rw [List.length_take]; omega), List.getElem?_take_of_lt (by decide), List.getElem?_eq_getElem h30]
    have hvk : ∀ x ∈ ((ks ++ ks3.take 1) ++ ks6.take 1), x ∈ keysF f := fun x hx => by
      rcases List.mem_append.mp hx with hx | hx
      · rcases List.mem_append.mp hx with hx | hx
        · exact hkk x hx
        · exact ((hks3 x).mp (List.mem_of_mem_take hx)).1
      · exact ((hks6 x).mp (List.mem_of_mem_take hx)).1
    generalize ((ks ++ ks3.take 1) ++ ks6.take 1) = vs at dp2 da2 hv2 hvk
    generalize ks3[0] = kt at h31 h32 hv2
    have k8 : Kp [] H7 (upd H7 c2 (.lst xs2)) := kp_new nc2
    have hc2 : (upd H7 c2 (.lst xs2)) c2 = some (.lst xs2) := upd_same
    have c2S : c2 ∉ [p] := not_mem_of (purse_live P7) nc2
    have da8 := DpAll.mono k8.hid0 da2
    generalize (upd H7 c2 (.lst xs2)) = H8 at k8 hc2 da8 ⊢
    have kE8 := kE7.trans k8
    have k08 : Kp [p] H H8 := (k0D.nil.trans kE).trans kE8.nil
    have P8 : Purse H8 p (m + 2) := PE.kp kE8 (by simp)
    have d8 : H8 d = some (.frz od (.dT (eF f))) := kE8.same _ _ dE
    have ol8 : H8 ol = some (.lst (((numsF f2).map fun n : Nat => (n : Int)).map L2.V.int)) := kE8.same _ _ (kE.at (by simpa using olS) olD)
    clear hv3 ha3 hx3 hv6 ha6 hx6 hq3 hq7 dq dq7 dp1 dp2 da2 da1
    -- what by_deeds is due
    refine ⟨_, rfl, ol, _, rfl, .inl (.inl ol8), by rw [List.length_map]; exact List.length_pos_iff.mpr hne2, fun mm hmm hle => ?_⟩
    have em2 := most_cast hne2 hmm hle
    subst em2
    have hm1 := mostF_le g ok2
    have em2 : (mostL (numsF f2) : Int) = (mostF f2 : Int) := rfl
    rw [em2]
    refine ⟨_, _, rfl, rfl, (mostF f2 : Int) + 1, rfl, by omega, by omega, fun DD hDD => ?_⟩
    rw [show ((mostF f2 : Int) + 1).toNat = mostF f2 + 1 by omega]
    refine lcS (K := K) (S := [p]) (walkR (lo := 0) (n := mostF f2 + 1)) (fun n => .int ((numsF f2).count n : Int)) hDD (purse_live P8) (by rw [List.length_range]; omega) (fun H1 kp => trivial) ?_ ?_
    · rintro i x x1 Ha Hb Yes hi kp hL ⟨rfl, rfl⟩ yes
      obtain ⟨rfl, hi⟩ := range_at hi
      have hp5 : SqL K Hb ol _ := .inl (.inl (kp.same _ _ ol8))
      refine ⟨rfl, _, rfl, .inl ⟨rfl, _, hp5⟩, _, rfl, ol, _, _, rfl, rfl, hp5, ?_⟩
      rw [show (0 : Int) + (x : Int) = (x : Int) by omega, count_cast]
      exact yes _ _ .refl (.int _)
    intro H9 ys9 k9 hL9 hl9 hle9 da9 dp9
    rw [deeds_map] at da9 dp9
    have k89 := k9
    have P9 := P8.kp k9 (by simp)
    have k09 : Kp [p] H H9 := k08.trans k9.nil
    have hu19 := Dp.mono (k09.hid (pin pm)) hu1
    have hu29 := Dp.mono (k09.hid (pin pm)) hu2
    have hn9 := hn.mono (k09.hid (pin pm))
    have d9 : H9 d = some (.frz od (.dT (eF f))) := k9.same _ _ d8
    have hc9 : H9 c2 = some (.lst xs2) := k9.same _ _ hc2
    have da9v := DpAll.mono k9.hid0 da8
    have low := fun {x : List Str} (hx : x ∈ keysF f) => g.lows (ok.sets x hx)
    have deD : Dp K (hid [p] H9) (.ref DD) (.list ((deedsF f2).map .int)) := dp9
    have low2 : ∀ z ∈ (deedsF f2).map PyData.int, Fine 0 z ∧ slim z = true := fun z hz => by
      obtain ⟨i, _, rfl⟩ := List.mem_map.mp hz
      exact ⟨fine_int, rfl⟩
    have dlen : (deedsF f2).length ≤ 1000 := by
      unfold deedsF
      rw [List.length_map, List.length_range]
      omega
    refine ⟨_, rfl, c2, rfl, ⟨_, .inl (.inl hc9)⟩, ?_⟩
    refine for_it (walkD da9v) (fun i σ H' => ∃ o8 o12 : Option L2.V, σ = [some (.ref p), some v, some n, some u1, some u2, some (.int (mostF f : Int)), some (.ref c2), some (.ref DD), o8, none, some (.ref d), some (.ref ol), o12, none, none] ∧ Kp [] H9 H') ⟨_, _, rfl, .refl⟩ (fun i σ H' _ ⟨_, _, _, kk⟩ => .inl (.inl (kk.same _ _ hc9))) ?_ ?_
    · rintro i x σ Ha Hb hi ⟨o8, o12, rfl, kk⟩ ⟨rfl, y⟩
      have hg := List.getElem?_eq_getElem hi
      have hx0 := y _ hg
      have hkx := hvk _ (List.getElem_mem hi)
      generalize vs[i] = kx at hx0 hkx
      have Lb := kk.live hL9
      have hxb := Dp.mono kk.hid0 hx0
      refine ⟨_, rfl, _, rfl, [p], n, u2, N, s2, rfl, Lb, hn9.mono kk.hid0, g, Dp.mono kk.hid0 hu29, hs2, fun a1 Hc g1 lay1 ok1 k1c na1 ha1 => ?_⟩
      have eg1 : g1 = f2 := lay1.det lay2
      rw [eg1] at ha1
      have hxc := Dp.mono k1c.hid0 hxb
      have kkc := kk.trans k1c
      have shx : SeqAt.shaped (eW kx) = true := (fine_words (low hkx)).shaped (n := 1) (by decide)
      refine ⟨_, rfl, _, rfl, _, rfl, [p], n, u1, x, N, s1, eW kx, rfl, kkc.live hL9, hn9.mono kkc.hid0, g, Dp.mono kkc.hid0 hu19, hs1, hxc, shx, fun Hd g2 lay3 ok3 k2c => ⟨two, fun l1 nl1 => ?_⟩⟩
      have eg2 : g2 = f := lay3.det lay
      rw [eg2, farB_eW hkx]
      have kkd := kkc.trans k2c
      have a1d : Hd a1 = some (.lst ((deedsF f2).map L2.V.int)) := k2c.same _ _ ha1
      have a1S : a1 ∉ [p] := not_mem_of (kk.live hL9) na1
      have ke : Kp [] Hd (upd Hd l1 (.lst [.ref a1, .bl (decide (lkF f kx = mostF f))])) := kp_new nl1
      have hl1 : (upd Hd l1 (.lst [.ref a1, .bl (decide (lkF f kx = mostF f))])) l1 = some (.lst [.ref a1, .bl (decide (lkF f kx = mostF f))]) := upd_same
      have l1S : l1 ∉ [p] := not_mem_of (kkd.live hL9) nl1
      generalize (upd Hd l1 (.lst [.ref a1, .bl (decide (lkF f kx = mostF f))])) = He at ke hl1 ⊢
      have kke := kkd.trans ke
      obtain ⟨xa, rfl, hxa⟩ := dp_words (Dp.mono kke.hid0 hx0)
      refine ⟨_, rfl, _, rfl, _, rfl, _, rfl, xa, _, rfl, .inl ⟨hid_le.seq hxa, fun q nq => ?_⟩⟩
      have kq : Kp [] He (upd He q (.tup (kx.map L2.V.str))) := kp_new nq
      have hq : (upd He q (.tup (kx.map L2.V.str))) q = some (.tup (kx.map L2.V.str)) := upd_same
      generalize (upd He q (.tup (kx.map L2.V.str))) = Hf at kq hq ⊢
      have kkf := kke.trans kq
      have gq : DGet Hf d (.ref q) (some (.int (lkF f kx : Int))) := by
        have z : DGet Hf d (.ref q) (valV (eF f) (kx.map Sum.inr : List Key)) := .inr ⟨eF f, kx.map Sum.inr, q, .inr ⟨od, kkf.same _ _ d9⟩, rfl, by rw [kV_inr]; exact hq, rfl⟩
        rw [valV_eF, if_pos hkx] at z
        exact z
      refine ⟨d, _, rfl, gq, _, rfl, rfl, ⟨two, fun l2 nl2 => ?_⟩⟩
      have eb : decide (L2.V.int (lkF f kx : Int) = L2.V.int (mostF f : Int)) = decide (lkF f kx = mostF f) := by
        rw [int_eqb]
        exact decide_eq_decide.mpr Int.ofNat_inj
      rw [eb]
      have kf2 : Kp [] Hf (upd Hf l2 (.lst [.ref DD, .bl (decide (lkF f kx = mostF f))])) := kp_new nl2
      have hl2 : (upd Hf l2 (.lst [.ref DD, .bl (decide (lkF f kx = mostF f))])) l2 = some (.lst [.ref DD, .bl (decide (lkF f kx = mostF f))]) := upd_same
      have l2S : l2 ∉ [p] := not_mem_of (kkf.live hL9) nl2
      generalize (upd Hf l2 (.lst [.ref DD, .bl (decide (lkF f kx = mostF f))])) = Hg at kf2 hl2 ⊢
      have kkg := kkf.trans kf2
      have keg := (ke.trans kq).trans kf2
      have da1g : Dp K (hid [p] Hg) (.ref a1) (.list ((deedsF f2).map .int)) := .lst (.inl (.inl (hid_at (keg.same _ _ a1d) a1S))) (by
        generalize deedsF f2 = l
        induction l with
        | nil => exact .nil
        | cons x l ih => exact .cons (.int x) ih)
      refine ⟨[p], _, _, True, rfl, kkg.live hL9, exact_data (d := .list [.list ((deedsF f2).map .int), .bool (decide (lkF f kx = mostF f))]) (.lst (.inl (.inl (hid_at ((kq.trans kf2).same _ _ hl1) l1S))) (.cons da1g (.cons (.bl _) .nil))) (.lst (.inl (.inl (hid_at hl2 l2S))) (.cons (Dp.mono kkg.hid0 deD) (.cons (.bl _) .nil))) (deed_fine dlen), fun bb Hh hbb kh => ?_⟩
      rw [hbb.mpr True.intro]
      refine ⟨true, rfl, if_no rfl ?_⟩
      exact ⟨_, _, rfl, kkg.trans kh⟩
    · rintro σ Ha ⟨o8, o12, rfl, kk⟩
      refine ⟨_, rfl, _, rfl, [p], n, u2, N, s2, rfl, kk.live hL9, hn9.mono kk.hid0, g, Dp.mono kk.hid0 hu29, hs2, fun a Hb g1 t lay1 ok1 k1b na ha ht hlt => ?_⟩
      have kb := kk.trans k1b
      have aS : a ∉ [p] := not_mem_of (kk.live hL9) na
      obtain ⟨v2, hv2', hd2'⟩ := da_get da9v hv2
      refine ⟨_, rfl, _, rfl, _, rfl, c2, _, 2, _, rfl, rfl, .inl (.inl (kb.same _ _ hc9)), atI_nat (j := 2) hv2', [p], n, u1, v2, N, s1, eW kt, rfl, kb.live hL9, hn9.mono kb.hid0, g, Dp.mono kb.hid0 hu19, hs1, Dp.mono kb.hid0 hd2', (fine_words (low h31)).shaped (n := 1) (by decide), fun Hc g2 lay3 ok3 k2c => ?_⟩
      have eg2 : g2 = f := lay3.det lay
      have hkm : lkF f kt = mostF f := by omega
      rw [eg2, farB_eW h31, decide_eq_true hkm]
      have kc := kb.trans k2c
      have dt : Dp K (hid [p] Hc) (.ref a) (eW t) := words_dp (.inl (.inl (hid_at (k2c.same _ _ ha) aS)))
      refine ⟨_, rfl, _, rfl, _, rfl, [p], n, u2, .ref a, N, s2, eW t, rfl, kc.live hL9, hn9.mono kc.hid0, g, Dp.mono kc.hid0 hu29, hs2, dt, (fine_words (g.lows (ok1.sets t ht))).shaped (n := 1) (by decide), fun Hd g3 lay4 ok4 k3d => ⟨two, fun l1 nl1 => ⟨two, fun l2 nl2 => ?_⟩⟩⟩
      have eg3 : g3 = g1 := lay4.det lay1
      rw [eg3, farB_eW ht, decide_eq_true hlt] at nl2 ⊢
      have kd := kc.trans k3d
      have ke : Kp [] Hd (upd Hd l1 (.lst [.bl true, .bl true])) := kp_new nl1
      have hl1 : (upd Hd l1 (.lst [.bl true, .bl true])) l1 = some (.lst [.bl true, .bl true]) := upd_same
      have l1S : l1 ∉ [p] := not_mem_of (kd.live hL9) nl1
      generalize (upd Hd l1 (.lst [.bl true, .bl true])) = He at ke hl1 nl2 ⊢
      have kf : Kp [] He (upd He l2 (.lst [.bl true, .bl true])) := kp_new nl2
      have hl2 : (upd He l2 (.lst [.bl true, .bl true])) l2 = some (.lst [.bl true, .bl true]) := upd_same
      have l2S : l2 ∉ [p] := not_mem_of ((kd.trans ke).live hL9) nl2
      generalize (upd He l2 (.lst [.bl true, .bl true])) = Hf at kf hl2 ⊢
      have kz := (kd.trans ke).trans kf
      have ff : Fine 1 (.list [.bool true, .bool true]) := fine_lst fun x hx => by
        simp only [List.mem_cons, List.not_mem_nil, or_false, or_self] at hx
        rw [hx]
        exact fine_bl
      refine ⟨[p], _, _, True, rfl, kz.live hL9, exact_data (d := .list [.bool true, .bool true]) (.lst (.inl (.inl (hid_at (kf.same _ _ hl1) l1S))) (.cons (.bl _) (.cons (.bl _) .nil))) (.lst (.inl (.inl (hid_at hl2 l2S))) (.cons (.bl _) (.cons (.bl _) .nil))) ⟨ff.mono (by decide), by decide +kernel, by have := ff.dep; omega⟩, fun bb Hg hbb kg => ?_⟩
      rw [hbb.mpr True.intro]
      exact k Hg (k09.trans (kz.trans kg).nil) ((P9.kp (kz.trans kg) (by simp)).mono (by omega))
end
end K41
namespace K41
open PySem PySem.Spec PyProof.Rows L2 PySem.W
/-! ### values, asked for: which settings they are -/
def VHit (K : PySem.W.Frag) (G : Hp) (v : V) (hit : List Str → Bool) : Prop := (∃ d, Dp K G v d ∧ Fine 5 d ∧ slim d = true ∧ hit = fun k => PyData.eqv (eW k) d) ∨ (Emp G v ∧ hit = fun _ => false)
theorem VHit.mono {K : PySem.W.Frag} {G G' : Hp} {v : V} {hit : List Str → Bool} (h : VHit K G v hit) (s : Same G G') : VHit K G' v hit := by
  rcases h with ⟨d, h1, h2, h3, h4⟩ | ⟨h1, h2⟩
  · exact .inl ⟨d, Dp.mono s h1, h2, h3, h4⟩
  · exact .inr ⟨h1.mono s, h2⟩
def VOk (K : PySem.W.Frag) (G : Hp) (v : V) : Prop := ∃ hit, VHit K G v hit
def VAll (K : PySem.W.Frag) (G : Hp) (vs : List V) : Prop := ∀ v ∈ vs, VOk K G v
section
variable {K : PySem.W.Frag} {G G' : Hp} {v : V} {vs ws : List V} {d : PyData}
theorem VOk.mono (h : VOk K G v) (s : Same G G') : VOk K G' v := by
  obtain ⟨hit, h⟩ := h
  exact ⟨hit, h.mono s⟩
theorem VAll.mono (h : VAll K G vs) (s : Same G G') : VAll K G' vs := fun v hv => (h v hv).mono s
theorem VAll.nil : VAll K G [] := fun v hv => absurd hv (by simp)
theorem VAll.append (h : VAll K G vs) (k : VAll K G ws) : VAll K G (vs ++ ws) := fun v hv => by
  rcases List.mem_append.mp hv with hv | hv
  · exact h v hv
  · exact k v hv
theorem VAll.snoc (h : VAll K G vs) (k : VOk K G v) : VAll K G (vs ++ [v]) := h.append fun u hu => by
  rw [List.mem_singleton.mp hu]
  exact k
theorem vok (h : Dp K G v d) (f : Fine 5 d) (s : slim d = true) : VOk K G v := ⟨_, .inl ⟨d, h, f, s, rfl⟩⟩
theorem vok_emp (h : Emp G v) : VOk K G v := ⟨_, .inr ⟨h, rfl⟩⟩
theorem vok_words {ws : List Str} (h : Dp K G v (eW ws)) (low : ∀ x ∈ ws, Low x) (hl : ws.length ≤ 1000) : VOk K G v := vok h ((fine_words low).mono (by decide)) (slim_words hl)
theorem vall_words : ∀ {xs : List V} {ks : List (List Str)}, DpAll K G xs (ks.map eW) → (∀ k ∈ ks, (∀ x ∈ k, Low x) ∧ k.length ≤ 1000) → VAll K G xs
  | [], _, _, _ => .nil
  | x :: xs, [], h, _ => by cases h
  | x :: xs, k :: ks, .cons h t, hk => fun v hv => by
    rcases List.mem_cons.mp hv with rfl | hv
    · exact vok_words h (hk k (List.mem_cons_self ..)).1 (hk k (List.mem_cons_self ..)).2
    · exact vall_words t (fun z hz => hk z (List.mem_cons_of_mem _ hz)) v hv
/-- asked whether it is the setting k -/
theorem VHit.ex {hit : List Str → Bool} (h : VHit K G v hit) {k : List Str} {u : V} (low : ∀ x ∈ k, Low x) (hu : Dp K G u (eW k)) : ExP K G 8 v u (hit k = true) := by
  rcases h with ⟨d, h1, h2, h3, rfl⟩ | ⟨h1, rfl⟩
  · exact .data h1 hu (by have := h2.dep; omega) (h2.mono (by decide)) ((fine_words low).mono (by decide)) h3 eqv_words
  · exact .empD (by decide) h1 hu (by simp)
/-- what was noted of a value -/
def VNote (K : PySem.W.Frag) (G : Hp) (v u : V) : Prop := (∃ d, Dp K G v d ∧ Dp K G u d ∧ Fine 5 d ∧ slim d = true) ∨ (Emp G v ∧ ∃ b, u = .ref b ∧ Rd G b (.dK []))
theorem VNote.mono {u : V} (h : VNote K G v u) (s : Same G G') : VNote K G' v u := by
  rcases h with ⟨d, h1, h2, h3, h4⟩ | ⟨h1, b, e, h2⟩
  · exact .inl ⟨d, Dp.mono s h1, Dp.mono s h2, h3, h4⟩
  · exact .inr ⟨h1.mono s, b, e, Same.rd s h2⟩
theorem VNote.ex {u : V} (h : VNote K G v u) : ExP K G 7 v u True := by
  rcases h with ⟨d, h1, h2, h3, h4⟩ | ⟨h1, b, rfl, h2⟩
  · exact .data h1 h2 (by have := h3.dep; omega) (h3.mono (by decide)) (h3.mono (by decide)) h4 ⟨fun _ => rfl, fun _ => True.intro⟩
  · exact .empE (by decide) h1 h2 True.intro
theorem exact3 {a b : Addr} {r : Bool} {u : V} (h1 : SqL K G a [.bl r, .bl r, v]) (h2 : SqL K G b [.bl r, .bl r, u]) (h : VNote K G v u) : ExP K G 8 (.ref a) (.ref b) True := by
  have q : ExP K G 7 (.bl r) (.bl r) True := .data (.bl r) (.bl r) (by rw [PyData.depth]; decide) (fine_bl.mono (by decide)) (fine_bl.mono (by decide)) rfl ⟨fun _ => rfl, fun _ => True.intro⟩
  refine .list (fun _ => True) h1 h2 rfl (by show 3 ≤ 1000; decide) (fun i x y hx hy => ?_) ⟨fun _ _ _ => True.intro, fun _ => True.intro⟩
  match i, hx, hy with
  | 0, hx, hy => cases hx; cases hy; exact q
  | 1, hx, hy => cases hx; cases hy; exact q
  | 2, hx, hy => cases hx; cases hy; exact h.ex
  | i + 3, hx, hy => exact absurd hx (by simp)
end
def farH (g : Fd) (hit : List Str → Bool) : Bool := (keysF g).any fun k => hit k && decide (lkF g k = mostF g)
theorem farH_no (g : Fd) : farH g (fun _ => false) = false := by
  unfold farH
  rw [List.any_eq_false]
  intro k _
  simp
theorem farH_any {g : Fd} {hit : List Str → Bool} {ks : List (List Str)} (h : ∀ k, k ∈ ks ↔ k ∈ keysF g ∧ (lkF g k : Int) = (mostF g : Int)) : (ks.map hit).any id = farH g hit := by
  unfold farH
  rw [Bool.eq_iff_iff, List.any_eq_true, List.any_eq_true]
  constructor
  · rintro ⟨b, hb, e⟩
    obtain ⟨k, hk, rfl⟩ := List.mem_map.mp hb
    obtain ⟨h1, h2⟩ := (h k).mp hk
    refine ⟨k, h1, ?_⟩
    rw [Bool.and_eq_true, decide_eq_true_eq]
    exact ⟨e, by omega⟩
  · rintro ⟨k, hk, e⟩
    rw [Bool.and_eq_true, decide_eq_true_eq] at e
    exact ⟨hit k, List.mem_map.mpr ⟨k, (h k).mpr ⟨hk, by omega⟩, rfl⟩, e.1⟩
theorem farH_self {g : Fd} {t : List Str} (h : t ∈ keysF g) (e : lkF g t = mostF g) : farH g (fun k => PyData.eqv (eW k) (eW t)) = true := by
  unfold farH
  rw [List.any_eq_true]
  exact ⟨t, h, by rw [Bool.and_eq_true, decide_eq_true_eq]; exact ⟨eqv_words.mpr rfl, e⟩⟩
section
variable {P : Program} {w : World} {K : PySem.W.Frag} {mg : Str → Option Value} {base : Heap} {C : Addr}
def spIsFar3 (K : PySem.W.Frag) (C : Addr) : Sp := fun vs H Q _ => ∃ (S : List Addr) (v u x : L2.V) (N : Net) (s : List Str) (hit : List Str → Bool), vs = [v, u, x] ∧ Live S H ∧ NetV K C (hid S H) v N ∧ Good N ∧ Dp K (hid S H) u (eW s) ∧ IsSet N s ∧ VHit K (hid S H) x hit ∧
  ∀ H' g, Layers N s g → KeysOk N g → Kp [] H H' → Q (.bl (farH g hit)) H'
theorem c3_is_farthest (Y : Env K mg C) : Def P w K mg base (Str.ofString "is_farthest") 7 ["net", "setting", "value"] (spIsFar3 K C) := by
  refine def_mk Y.t_is_farthest sc_is_farthest bb_is_farthest (fun vs H Q E h => ?_) (fun f cdv A outer s H vs Q E hr h => ?_)
  · obtain ⟨S, v, u, x, N, s, hit, rfl, _⟩ := h
    rfl
  · obtain ⟨S, v, u, x, N, st, hit, rfl, hS, hN, g, h1, hs, hx, k⟩ := h
    have hu := hu_of hr
    refine ⟨_, (pss_cons (ps_expr (pe_def (c_check_set Y) (hr.mono (by decide)) (pa_cons (pv 0) (pa_cons (pv 1) pa_nil))))
    (pss_cons (ps_set (i := 3) sc_is_farthest.nd rfl (Or.inl rfl) (pe_frz (pe_def (c_layers_from Y) (hr.mono (by decide)) (pa_cons (pv 0) (pa_cons (pv 1) pa_nil)))))
    (pss_cons (ps_if (PW.pt (pw_or (pt_not (pt_val (pe_callB (K_isi (K := K) rfl) (by rfl) Y.n_isinstance (by decide +kernel) (pa_cons (pv 2) (pa_cons (pe_bltn (u := .type "list") (v := .ty "list") rfl Y.n_list (by decide +kernel) rfl) pa_nil))))) (pw_or1 (pt_cmpR (K_notInD (K := K) rfl (hu65 hr)) (pv 2) (pe_lc (own := [("here", 4)]) rfl sc_is_farthest.nd (pi_keys (pv 3)) (blkOk_by (own := [("here", 4)]) (N := ["net", "setting", "value", "layers", "here"]) (sc := defScope s_is_farthest) (by decide +kernel)) (fun _ _ _ _ _ => (pg_name (i := 4) sc_is_farthest.nd rfl (Or.inl rfl))) (fun _ _ _ _ _ => pts_nil) (fun _ _ _ _ _ => (pe_callTy (K_list (K := K) rfl) (by rfl) Y.n_list (by decide +kernel) (pa_cons (pv 4) pa_nil)))) rfl)))) (pss_one (ps_ret pe_bl)) pss_nil)
    (pss_one (ps_ret (pe_cmpR op_eq (pe_dget (hu_of hr) (pv 3) (pe_callTy (K_tuple (K := K) rfl) (by rfl) Y.n_tuple (by decide +kernel) (pa_cons (pv 2) pa_nil)) (fun _ _ => rfl)) (pe_maxVals rfl (pv 3) (by rfl) Y.n_max) (nomark _))))))), ?_⟩
    refine ⟨_, rfl, _, rfl, S, v, [u], N, [eW st], _, rfl, hS, hN, g, .cons h1 .nil, ⟨st, rfl, hs, rfl⟩, fun v1 H1 k1 hv => ?_⟩
    refine ⟨_, rfl, _, rfl, S, v, u, N, st, rfl, k1.live hS, hN.mono k1.hid0, g, Dp.mono k1.hid0 h1, hs, fun d H2 f k2 nd hd lay ok => ?_⟩
    refine ⟨d, _, rfl, hd, True.intro, fun od => ?_⟩
    have kA : Kp [] H (upd H2 d (.frz od (.dT (eF f)))) := (k1.trans k2).put (k1.free nd)
    have dA : (upd H2 d (.frz od (.dT (eF f)))) d = some (.frz od (.dT (eF f))) := upd_same
    generalize (upd H2 d (.frz od (.dT (eF f)))) = HA at kA dA ⊢
    rcases hx with ⟨dd, hx, hfine, hslim, rfl⟩ | ⟨hx, rfl⟩
    rotate_left
    · obtain ⟨a, o, rfl, ha⟩ := hx.mono (kA.hid0 (S := S))
      have e : isS "list" "dict" = false := by decide
      refine ⟨_, rfl, _, _, _, _, _, rfl, .ty "list", .fDict (hid_le _ _ ha), isi7 (by simp [tys]) (by simp), _, rfl, ?_⟩
      rw [e]
      refine if_yes rfl ?_
      have q := k _ f lay ok kA
      rw [farH_no] at q
      exact q
    have k : ∀ H' g, Layers N st g → KeysOk N g → Kp [] H H' → Q (.bl (farB g dd)) H' := k
    have hsh : SeqAt.shaped dd = true := hfine.shaped (by decide)
    have few := ok.few g
    have hxA := Dp.mono kA.hid0 hx
    obtain ⟨t, ht1, ht2⟩ := isi_dp (Dp.mono hid_le hxA) (T := "list") (by simp)
    refine ⟨_, rfl, _, _, _, _, _, rfl, .ty "list", ht1, ht2, _, rfl, ?_⟩
    by_cases hli : ∃ es, dd = .list es
    · obtain ⟨es, rfl⟩ := hli
      refine if_no rfl ?_
      refine ⟨_, rfl, _, rfl, d, od, rfl, .inr ⟨eF f, dA, fun D hD => ?_⟩⟩
      refine lcS (K := K) (items := keysF f) (S := S) walkF eW hD (kA.live hS) (by unfold keysF; rw [List.length_map]; omega) (fun H' kp => kp.same _ _ dA) ?_ ?_
      · rintro i z x1 Ha Hb Yes hi kp hL ⟨rfl, y⟩ yes
        obtain ⟨q, rfl, hq⟩ := y z hi
        refine ⟨rfl, _, rfl, q, _, rfl, .inr (.inl (.inl hq)), fun p np => ?_⟩
        exact yes _ _ (kp_new np) (words_dp (.inl (.inl (hid_at upd_same (not_mem_of hL np)))))
      · intro Ha ys kp hL hl hle da dp
        have hsl : SeqAt.shaped (.list ((keysF f).map eW)) = true := (fine_list fun z hz => fine_words (g.lows (ok.sets z hz))).shaped (n := 2) (by decide)
        have hxB := Dp.mono kp.hid0 hxA
        refine ⟨_, _, Dp.mono hid_le hxB, Dp.mono hid_le dp, hsh, hsl, _, rfl, ?_⟩
        by_cases hin : ∃ z ∈ keysF f, PyData.list es = eW z
        · rw [any_words.mpr hin]
          refine if_no rfl ?_
          obtain ⟨z, hz, ez⟩ := hin
          rw [ez] at hxB k
          obtain ⟨a, rfl, hl⟩ := dp_words hxB
          refine ⟨_, rfl, _, rfl, a, _, rfl, .inl ⟨hid_le.seq hl, fun q nq => ?_⟩⟩
          have kq := (kA.trans kp).new (o := .tup (z.map L2.V.str)) nq
          have dq : (upd Ha q (.tup (z.map L2.V.str))) d = some (.frz od (.dT (eF f))) := (kp.new (o := .tup (z.map L2.V.str)) nq).same _ _ dA
          have gq : DGet (upd Ha q (.tup (z.map L2.V.str))) d (.ref q) (some (.int (lkF f z : Int))) := by
            have w : DGet (upd Ha q (.tup (z.map L2.V.str))) d (.ref q) (valV (eF f) (z.map Sum.inr : List Key)) := .inr ⟨eF f, z.map Sum.inr, q, .inr ⟨od, dq⟩, rfl, by rw [kV_inr]; exact upd_same, rfl⟩
            rw [valV_eF, if_pos hz] at w
            exact w
          refine ⟨d, _, rfl, gq, _, rfl, ?_⟩
          have hne := keys_ne lay.start
          refine ⟨d, eF f, _, rfl, .inr ⟨od, dq⟩, vals_eF f, fun e => hne (List.map_eq_nil_iff.mp e), fun m hm hle => ?_⟩
          have em := most_cast hne hm hle
          subst em
          have em : (mostL (numsF f) : Int) = (mostF f : Int) := rfl
          rw [em]
          refine ⟨rfl, ?_⟩
          rw [int_eqb]
          have ef : decide ((lkF f z : Int) = (mostF f : Int)) = farB f (eW z) := by
            rw [farB_eW hz]
            by_cases h : lkF f z = mostF f
            · rw [decide_eq_true h, decide_eq_true (by omega)]
            · rw [decide_eq_false h, decide_eq_false (by omega)]
          rw [ef]
          exact k _ f lay ok kq
        · have e : ((keysF f).map eW).any (fun z => PyData.eqv z (.list es)) = false := by
            cases q : ((keysF f).map eW).any (fun z => PyData.eqv z (.list es)) with
            | false => rfl
            | true => exact absurd (any_words.mp q) hin
          rw [e]
          refine if_yes rfl ?_
          have q := k _ f lay ok (kA.trans kp)
          rw [farB_no fun z hz e => hin ⟨z, hz, e⟩] at q
          exact q
    · have e : isS "list" (tyN dd) = false := by
        cases hx with
        | lst _ _ => exact absurd ⟨_, rfl⟩ hli
        | non => exact (by decide : isS "list" "NoneType" = false)
        | bl b => exact (by decide : isS "list" "bool" = false)
        | int b => exact (by decide : isS "list" "int" = false)
        | str b => exact (by decide : isS "list" "str" = false)
        | tup _ _ => exact (by decide : isS "list" "tuple" = false)
      rw [e]
      refine if_yes rfl ?_
      have q := k _ f lay ok kA
      rw [farB_no fun z hz e => hli ⟨_, e⟩] at q
      exact q
/-- the farthest that is told -/
def farT (g : Fd) : List Str := (((keysF g).filter fun k => decide (lkF g k = mostF g))[0]?).getD []
theorem farT_at {g : Fd} (h : 0 < ((keysF g).filter fun k => decide (lkF g k = mostF g)).length) : farT g = ((keysF g).filter fun k => decide (lkF g k = mostF g))[0] := by
  unfold farT
  rw [List.getElem?_eq_getElem h]
  rfl
theorem farT_is {N : Net} {g : Fd} {s : List Str} (o : KeysOk N g) (h : s ∈ keysF g) : farT g ∈ keysF g ∧ lkF g (farT g) = mostF g := by
  obtain ⟨t0, ht0, et0⟩ := most_key o h
  have hne2 : 0 < ((keysF g).filter fun k => decide (lkF g k = mostF g)).length := List.length_pos_of_mem (List.mem_filter.mpr ⟨ht0, decide_eq_true et0⟩)
  obtain ⟨hm, hq⟩ := List.mem_filter.mp (List.getElem_mem hne2)
  rw [farT_at hne2]
  exact ⟨hm, of_decide_eq_true hq⟩
def spFar3 (K : PySem.W.Frag) (C : Addr) : Sp := fun vs H Q _ => ∃ (S : List Addr) (v u : L2.V) (N : Net) (s : List Str), vs = [v, u] ∧ Live S H ∧ NetV K C (hid S H) v N ∧ Good N ∧ Dp K (hid S H) u (eW s) ∧ IsSet N s ∧
  ∀ a H' g, Layers N s g → KeysOk N g → Kp [] H H' → H a = none → H' a = some (.lst ((farT g).map L2.V.str)) → Q (.ref a) H'
theorem c3_farthest (Y : Env K mg C) : Def P w K mg base (Str.ofString "farthest") 7 ["net", "setting"] (spFar3 K C) := by
  refine def_mk Y.t_farthest sc_farthest bb_farthest (fun vs H Q E h => ?_) (fun f cdv A outer s H vs Q E hr h => ?_)
  · obtain ⟨S, v, u, N, s, rfl, _⟩ := h
    rfl
  · obtain ⟨S, v, u, N, st, rfl, hS, hN, g, h1, hs, k⟩ := h
    have hu := hu_of hr
    refine ⟨_, (pss_cons (ps_expr (pe_def (c_check_set Y) (hr.mono (by decide)) (pa_cons (pv 0) (pa_cons (pv 1) pa_nil))))
    (pss_cons (ps_set (i := 2) sc_farthest.nd rfl (Or.inr rfl) (pe_frz (pe_def (c_layers_from Y) (hr.mono (by decide)) (pa_cons (pv 0) (pa_cons (pv 1) pa_nil)))))
    (pss_cons (ps_set (i := 3) sc_farthest.nd rfl (Or.inr rfl) (pe_maxVals rfl (pv 2) (by rfl) Y.n_max))
    (pss_one (ps_ret (pe_callTy (K_list (K := K) rfl) (by rfl) Y.n_list (by decide +kernel) (pa_cons (pe_ix (K_ixL (K := K) rfl) (pe_lc (own := [("here", 4)]) rfl sc_farthest.nd (pi_keys (pv 2)) (blkOk_by (own := [("here", 4)]) (N := ["net", "setting", "layers", "most", "here"]) (sc := defScope s_farthest) (by decide +kernel)) (fun _ _ _ _ _ => (pg_name (i := 4) sc_farthest.nd rfl (Or.inl rfl))) (fun _ _ _ _ _ => (pts_one (pt_cmpR op_eq (pe_dget (hu_of hr) (pv 2) (pv 4) (fun _ _ => rfl)) (pv 3) (nomark _)))) (fun _ _ _ _ _ => (pv 4))) pe_int (fun _ _ => rfl)) pa_nil))))))), ?_⟩
    refine ⟨_, rfl, _, rfl, S, v, [u], N, [eW st], _, rfl, hS, hN, g, .cons h1 .nil, ⟨st, rfl, hs, rfl⟩, fun v1 H1 k1 hv => ?_⟩
    refine ⟨_, rfl, _, rfl, S, v, u, N, st, rfl, k1.live hS, hN.mono k1.hid0, g, Dp.mono k1.hid0 h1, hs, fun d H2 f k2 nd hd lay ok => ?_⟩
    refine ⟨d, _, rfl, hd, True.intro, fun od => ?_⟩
    have kA : Kp [] H (upd H2 d (.frz od (.dT (eF f)))) := (k1.trans k2).put (k1.free nd)
    have dA : (upd H2 d (.frz od (.dT (eF f)))) d = some (.frz od (.dT (eF f))) := upd_same
    generalize (upd H2 d (.frz od (.dT (eF f)))) = HA at kA dA ⊢
    have few := ok.few g
    refine ⟨_, rfl, ?_⟩
    have hne := keys_ne lay.start
    refine ⟨d, eF f, _, rfl, .inr ⟨od, dA⟩, vals_eF f, fun e => hne (List.map_eq_nil_iff.mp e), fun m hm hle => ?_⟩
    have em := most_cast hne hm hle
    subst em
    have em : (mostL (numsF f) : Int) = (mostF f : Int) := rfl
    rw [em]
    refine ⟨_, rfl, d, od, rfl, .inr ⟨eF f, dA, fun D hD => ?_⟩⟩
    refine lcT2 (K := K) (items := keysF f) (S := []) walkF (fun k => decide (lkF f k = mostF f)) (fun k => .tuple (k.map .str)) hD Live.nil (by unfold keysF; rw [List.length_map]; omega) (fun H' kp => kp.same _ _ dA) ?_ ?_
    · rintro i x x1 Ha Hb Yes No hi kp hL ⟨acc, hacc⟩ ⟨rfl, y⟩ yes no
      obtain ⟨q, rfl, hq⟩ := y x hi
      have dB : Hb d = some (.frz od (.dT (eF f))) := kp.same _ _ dA
      have gq : DGet Hb d (.ref q) (some (.int (lkF f x : Int))) := by
        have z : DGet Hb d (.ref q) (valV (eF f) (x.map Sum.inr : List Key)) := .inr ⟨eF f, x.map Sum.inr, q, .inr ⟨od, dB⟩, rfl, by rw [kV_inr]; exact hq, rfl⟩
        rw [valV_eF, if_pos (List.mem_of_getElem? hi)] at z
        exact z
      have qD : q ≠ D := fun e => by
        subst e
        rw [hq] at hacc
        cases hacc
      refine ⟨rfl, _, rfl, _, rfl, d, _, rfl, gq, _, rfl, rfl, _, rfl, ?_⟩
      rw [int_eqb]
      by_cases h : lkF f x = mostF f
      · refine if_yes (decide_eq_true (by omega)) ⟨_, rfl, yes _ _ .refl (decide_eq_true h) (wtup_dp (.inl (.inl (hid_at hq ?_))))⟩
        intro z
        exact qD (List.mem_singleton.mp z)
      · exact if_no (decide_eq_false (by omega)) (no _ .refl (decide_eq_false h))
    · intro Ha ys kp hL hl hle da dp
      obtain ⟨t0, ht0, et0⟩ := most_key ok lay.start
      have hne2 : 0 < ((keysF f).filter fun k => decide (lkF f k = mostF f)).length := List.length_pos_of_mem (List.mem_filter.mpr ⟨ht0, decide_eq_true et0⟩)
      obtain ⟨v0, hv0, hd0⟩ := da_get da (List.getElem?_eq_getElem hne2)
      obtain ⟨q, xs, rfl, hq1, hq2⟩ := dp_tuple hd0
      rw [da_strs hq2] at hq1
      refine ⟨D, ys, 0, _, rfl, rfl, .inl (.inl hl), atI_nat (j := 0) hv0, q, _, rfl, .inr (Same.tup hid_le hq1), fun p np => ?_⟩
      exact k p _ f lay ok ((kA.trans kp).new np) ((kA.trans kp).free np) (by rw [farT_at hne2]; exact upd_same)
end
end K41
namespace K41
open PySem PySem.Spec PyProof.Rows L2 PySem.W
theorem kp_fresh {p : Addr} {T : List Addr} {H0 H H' : Hp} (k1 : Kp [p] H0 H) (k2 : Kp T H H') (hf : ∀ a ∈ T, H0 a = none) : Kp [p] H0 H' := fun b o h => by
  obtain ⟨g1, g2⟩ := k1 b o h
  have hb : b ∉ T := fun z => by
    have q := hf b z
    rw [h] at q
    cases q
  cases e : H b with
  | none => exact absurd e g1
  | some u =>
    refine ⟨(k2 b u e).1, fun hp => ?_⟩
    exact (k2 b o (g2 hp)).2 hb
/-- what is told, to be spoilt -/
def trs (la ca da : Addr) (qs : List Addr) : List Addr := la :: ca :: da :: qs
/-- the state of _law_class_right once it is told -/
structure CR (K : PySem.W.Frag) (C : Addr) (H0 : Hp) (p : Addr) (N : Net) (st : List Str) (f : Fd) (v n u : V) (due hd told la d ca da : Addr) (od : Obj) (qs : List Addr) (m : Nat) (H : Hp) : Prop where
  p0 : H0 p ≠ none
  kp : Kp [p] H0 H
  pu : Purse H p m
  lnet : LNet K (hid [p] H) v N
  made : NetV K C (hid (p :: trs la ca da qs) H) n N
  set : Dp K (hid (p :: trs la ca da qs) H) u (eW st)
  hnd : Dp K (hid (p :: trs la ca da qs) H) (.ref hd) (eW st)
  due : Dp K (hid (p :: trs la ca da qs) H) (.ref due) (.list [.list ((srt eW (keysF f)).map eW), .list ((deedsF f).map .int)])
  lay : H d = some (.frz od (.dT (eF f)))
  told : hid (p :: trs la ca da qs) H told = some (.lst [.ref ca, .ref da])
  cls : H ca = some (.lst (qs.map V.ref))
  lat : H la = some (.lst ((farT f).map V.str))
  fre : ∀ a ∈ trs la ca da qs, H0 a = none
  lis : ∀ a ∈ trs la ca da qs, ∃ xs, H a = some (.lst xs) ∧ xs.length ≤ 1000
  few : qs.length ≤ 1000
section
variable {K : PySem.W.Frag} {C : Addr} {H0 H H' : Hp} {p : Addr} {N : Net} {st : List Str} {f : Fd} {v n u : V} {due hd told la d ca da : Addr} {od : Obj} {qs : List Addr} {m m' : Nat}
theorem CR.ni (h : CR K C H0 p N st f v n u due hd told la d ca da od qs m H) {a : Addr} (ha : a ∈ trs la ca da qs) : a ∉ [p] := fun z => by
  have q := h.fre a ha
  rw [List.mem_singleton.mp z] at q
  exact h.p0 q
theorem CR.live (h : CR K C H0 p N st f v n u due hd told la d ca da od qs m H) : Live (p :: trs la ca da qs) H := fun a ha e => by
  rcases List.mem_cons.mp ha with rfl | ha
  · obtain ⟨x, y, z, q, _⟩ := h.pu
    rw [q] at e
    cases e
  · obtain ⟨xs, q, _⟩ := h.lis a ha
    rw [q] at e
    cases e
theorem CR.move (h : CR K C H0 p N st f v n u due hd told la d ca da od qs m H) (k : Kp [p] H H') (hp : Purse H' p m') : CR K C H0 p N st f v n u due hd told la d ca da od qs m' H' := by
  have pin : ∀ b ∈ [p], b ∈ [p] := fun b hb => hb
  have pinT : ∀ b ∈ [p], b ∈ p :: trs la ca da qs := fun b hb => by rw [List.mem_singleton.mp hb]; exact List.mem_cons_self ..
  have s1 := k.hid pin
  have s2 := k.hid pinT
  have dp : d ∉ [p] := fun z => by
    obtain ⟨x, y, z', q, _⟩ := h.pu
    have q2 := h.lay
    rw [List.mem_singleton.mp z, q] at q2
    cases q2
  refine ⟨h.p0, h.kp.trans k, hp, h.lnet.mono s1, h.made.mono s2, Dp.mono s2 h.set, Dp.mono s2 h.hnd, Dp.mono s2 h.due, k.at dp h.lay, s2 _ _ h.told, k.at (h.ni (by simp [trs])) h.cls, k.at (h.ni (by simp [trs])) h.lat, h.fre, fun a ha => ?_, h.few⟩
  obtain ⟨xs, q, hl⟩ := h.lis a ha
  exact ⟨xs, k.at (h.ni ha) q, hl⟩
theorem CR.same (h : CR K C H0 p N st f v n u due hd told la d ca da od qs m H) (k : Kp [] H H') : CR K C H0 p N st f v n u due hd told la d ca da od qs m H' := h.move k.nil (h.pu.kp k (by simp))
theorem CR.sub : Same (hid (p :: trs la ca da qs) H) (hid [p] H) := hid_sub fun x hx => by rw [List.mem_singleton.mp hx]; exact List.mem_cons_self ..
end
theorem deeds_len (f : Fd) : (deedsF f).length = mostF f + 1 := by
  unfold deedsF
  rw [List.length_map, List.length_range]
theorem keys_fine {N : Net} {g : Fd} (G : Good N) (o : KeysOk N g) : Fine 2 (.list ((srt eW (keysF g)).map eW)) ∧ slim (.list ((srt eW (keysF g)).map eW)) = true := by
  have few := o.few G
  have hs : ∀ k ∈ srt eW (keysF g), IsSet N k := fun k hk => o.sets k (srt_mem.mp hk)
  refine ⟨fine_list fun k hk => fine_words (G.lows (hs k hk)), slim_list.mpr ⟨?_, fun x hx => ?_⟩⟩
  · rw [List.length_map, srt_len, keysF, List.length_map]
    omega
  · obtain ⟨k, hk, rfl⟩ := List.mem_map.mp hx
    exact slim_words (by have := (hs k hk).len G; omega)
theorem deeds_fine {N : Net} {g : Fd} (G : Good N) (o : KeysOk N g) : Fine 2 (.list ((deedsF g).map .int)) ∧ slim (.list ((deedsF g).map .int)) = true := by
  have hm := mostF_le G o
  refine ⟨(fine_list fun k hk => fine_int).mono (by decide : 1 ≤ 2), slim_list.mpr ⟨?_, fun x hx => ?_⟩⟩
  · rw [List.length_map, deeds_len]
    omega
  · obtain ⟨k, hk, rfl⟩ := List.mem_map.mp hx
    rfl
theorem set_fine {N : Net} {s : List Str} (G : Good N) (h : IsSet N s) : Fine 2 (eW s) ∧ slim (eW s) = true := ⟨(fine_words (G.lows h)).mono (by decide), slim_words (by have := h.len G; omega)⟩
/-- a few data side by side -/
theorem fine_few {ds : List PyData} {n : Nat} (h : ∀ d ∈ ds, Fine n d ∧ slim d = true) (hn : n < 7) (hl : ds.length ≤ 1000) : Fine 60 (.list ds) ∧ slim (.list ds) = true ∧ (PyData.list ds).depth < 8 := by
  have q : Fine (n + 1) (.list ds) := fine_lst fun d hd => (h d hd).1
  exact ⟨q.mono (by omega), slim_list.mpr ⟨hl, fun d hd => (h d hd).2⟩, by have := q.dep; omega⟩
theorem class_srt {N : Net} (g : Good N) {s k : List Str} {a b : Fd} (h : IsSet N s) (r : Layers N s a) (oa : KeysOk N a) (hk : k ∈ keysF a) (q : Layers N k b) (ob : KeysOk N b) : srt eW (keysF b) = srt eW (keysF a) ∧ b.length = a.length := by
  have pm := class_same g h r oa hk q ob
  refine ⟨(srt_eq inj_words pm).symm, ?_⟩
  have e := pm.length_eq
  unfold keysF at e
  rw [List.length_map, List.length_map] at e
  exact e.symm
abbrev crN : List Str := ["_law_purse_here", "_law_net_here", "_law_made", "_law_setting_here", "_law_due", "_law_values", "_law_value", "_law_other", "_law_part_here", "_law_layers", "_law_handed", "_law_most", "_law_numbers", "_law_told", "_law_late", "_law_fresh", "_law_far_here", "_law_kept", "_law_some", "_law_noted", "_law_right", "_law_number", "_law_turn", "_law_here"]
section
variable {P : Program} {w : World} {K : PySem.W.Frag} {mg : Str → Option Value} {base : Heap} {C : Addr}
theorem cr4 (Y : Env K mg C) {f0 : Addr} {cdv : Value} {A : Around} {outer : List PySem.Env} {s : Shared} {Hs : Hp} {E : XK} (hr : Room 8 (A.deeper (envOfC (Str.ofString "_law_class_right") (defScope s_l_class_right) s.heap.objs.size f0 cdv)))
    {H0 : Hp} {p : Addr} {N : Net} {st : List Str} (g : Good N) (hst : IsSet N st) {Q : VK} {M : Nat} (hM : M ≤ 1000000000) (k : ∀ H', Kp [p] H0 H' → Purse H' p M → Q (.bl true) H') :
    ∃ t, PSs (cxOf CX0 P w K mg base crN (Str.ofString "_law_class_right") (defScope s_l_class_right) f0 cdv A outer s Hs E).nox ((defBody s_l_class_right).drop 10) t ∧
      ∀ (f : Fd), Layers N st f → KeysOk N f → ∀ (v n u : L2.V) (due hd told la d ca da : Addr) (od : Obj) (qs : List Addr) (m : Nat) (H : Hp) (o5 o6 o11 o12 o15 o16 o19 o20 : Option L2.V), m + 1 ≤ M → CR K C H0 p N st f v n u due hd told la d ca da od qs m H →
        t { nx := fun _ H' => Q .non H', rt := Q } [some (.ref p), some v, some n, some u, some (.ref due), o5, o6, none, none, some (.ref d), some (.ref hd), o11, o12, some (.ref told), some (.ref la), o15, o16, none, none, o19, o20, none, none, none] H := by
  have hu := hu_of hr
  refine ⟨_, (pss_cons (ps_set (i := 7) sc_l_class_right.nd rfl (Or.inl rfl) (pe_callTy (K_list (K := K) rfl) (by rfl) Y.n_list (by decide +kernel) (pa_cons (pe_def (c_l_one_of Y) (hr.mono (by decide)) (pa_cons (pv 0) (pa_cons (pe_callB (call_sortT rfl (hu100 hr)) (by rfl) Y.n_sorted (by decide +kernel) (pa_cons (pv 9) pa_nil)) pa_nil))) pa_nil)))
    (pss_cons (ps_if (PW.pt (pw_or (pt_not (pt_val (pe_def (c_l_exact Y 8) (hr.mono (by decide)) (pa_cons (pe_def (c_class_of Y) (hr.mono (by decide)) (pa_cons (pv 2) (pa_cons (pv 7) pa_nil))) (pa_cons (pe_ix (K_ixL (K := K) rfl) (pv 4) pe_int (fun _ _ => rfl)) pa_nil))))) (pw_or1 (pt_not (pt_val (pe_def (c_l_exact Y 8) (hr.mono (by decide)) (pa_cons (pe_callB (K_sum (K := K) rfl rfl) (by rfl) Y.n_sum (by decide +kernel) (pa_cons (pe_def (c_by_deeds Y) (hr.mono (by decide)) (pa_cons (pv 2) (pa_cons (pv 7) pa_nil))) pa_nil)) (pa_cons (pe_callB (K_len (K := K) rfl) (by rfl) Y.n_len (by decide +kernel) (pa_cons (pe_ix (K_ixL (K := K) rfl) (pv 4) pe_int (fun _ _ => rfl)) pa_nil)) pa_nil)))))))) (pss_one (ps_ret pe_bl)) pss_nil)
    (pss_cons (ps_par (i := 17) (j := 18) rfl sc_l_class_right.nd rfl rfl (by decide) rfl rfl (pa_cons (pe_callTy (K_list (K := K) rfl) (by rfl) Y.n_list (by decide +kernel) (pa_cons (pv 14) pa_nil)) (pa_cons (pe_op (K_cat (K := K) rfl) (pe_op (K_cat (K := K) rfl) (pe_ix (K_ixL (K := K) rfl) (pv 13) pe_int (fun _ _ => rfl)) (pv 13)) (pe_lst (pa_cons (pv 14) pa_nil))) pa_nil)) rfl)
    (pss_cons (ps_for PassesOwn.never rfl (K_pil (K := K) rfl (pv 18)) (pg_name (i := 8) sc_l_class_right.nd rfl (Or.inl rfl))
    (pss_one (ps_expr (K_bm (K := K) rfl PySem.F.plainAttrs_list PySem.F.slot_list_append PySem.F.type_list_append mt_append (pv 8) (pa_cons pe_non pa_nil)))))
    (pss_cons (ps_if (pt_cmpR (K_neD (K := K) rfl (hu65 hr)) (pv 10) (pv 3) (nomark _)) (pss_one (ps_ret pe_bl)) pss_nil)
    (pss_one (ps_ret (pe_def (c_l_exact Y 8) (hr.mono (by decide)) (pa_cons (pe_lst (pa_cons (pe_def (c_class_of Y) (hr.mono (by decide)) (pa_cons (pv 2) (pa_cons (pv 3) pa_nil))) (pa_cons (pe_def (c_by_deeds Y) (hr.mono (by decide)) (pa_cons (pv 2) (pa_cons (pv 3) pa_nil))) (pa_cons (pe_def (c3_farthest Y) (hr.mono (by decide)) (pa_cons (pv 2) (pa_cons (pv 3) pa_nil))) pa_nil)))) (pa_cons (pe_op (K_cat (K := K) rfl) (pv 4) (pe_lst (pa_cons (pv 17) pa_nil))) pa_nil)))))))))), ?_⟩
  rintro f lay ok v n u due hd told la d ca da od qs m H o5 o6 o11 o12 o15 o16 o19 o20 hm c
  have two : 2 ≤ sizeLine := by decide
  have few := ok.few g
  have pm : p ∈ [p] := List.mem_singleton.mpr rfl
  -- another of the class
  refine ⟨_, rfl, _, rfl, d, eF f, keysF f, rfl, .inr ⟨od, c.lay⟩, eF_keys f, fun sl bs nsl hbs hb => ?_⟩
  obtain ⟨hz, hzl⟩ := sorted_keys hbs hb
  generalize bs.mergeSort (leD encT) = zs at hz hzl nsl ⊢
  have kc : Kp [] H (upd H sl (.lst (zs.map fun b => L2.V.ref b.1))) := kp_new nsl
  have hsl : (upd H sl (.lst (zs.map fun b => L2.V.ref b.1))) sl = some (.lst (zs.map fun b => L2.V.ref b.1)) := upd_same
  have slS : sl ∉ [p] := not_mem_of (purse_live c.pu) nsl
  have hzd : DpAll K (hid [p] H) (zs.map fun b => L2.V.ref b.1) (zs.map fun b : Addr × List Str => eK b.2) := keys_dp c.pu.noTup fun b hb => (hz b hb).1
  have c1 := c.same kc
  generalize (upd H sl (.lst (zs.map fun b => L2.V.ref b.1))) = H1 at kc hsl c1 ⊢
  have f0' : 0 < f.length := by
    have q := List.length_pos_of_mem lay.start
    rwa [keysF, List.length_map] at q
  refine ⟨[p], p, m, _, [.list (zs.map fun b : Addr × List Str => eK b.2)], rfl, purse_live c1.pu, pm, c1.pu, by omega, .cons (.lst (.inl (.inl (hid_at hsl slS))) (DpAll.mono kc.hid0 hzd)) .nil, ⟨_, rfl, by rw [List.length_map]; omega, by rw [List.length_map]; omega⟩, fun ov H2 od2 k2 P2 hr3 hov => ?_⟩
  obtain ⟨b0, hb0, rfl⟩ := one_key hr3
  have hk0 := (hz b0 hb0).2
  generalize b0.2 = k0 at hov hk0
  obtain ⟨ta, txs, rfl, hta, htx⟩ := dp_tuple hov
  have etx := da_strs htx
  subst etx
  have c2 := c1.move k2 P2
  refine ⟨ta, _, rfl, .inr (Same.tup hid_le hta), fun o2 no2 => ?_⟩
  have k3 : Kp [] H2 (upd H2 o2 (.lst (k0.map L2.V.str))) := kp_new no2
  have ho2 : (upd H2 o2 (.lst (k0.map L2.V.str))) o2 = some (.lst (k0.map L2.V.str)) := upd_same
  have o2S : o2 ∉ p :: trs la ca da qs := not_mem_of c2.live no2
  have c3 := c2.same k3
  generalize (upd H2 o2 (.lst (k0.map L2.V.str))) = H3 at k3 ho2 c3 ⊢
  have hset2 : IsSet N k0 := ok.sets _ hk0
  have dol : Dp K (hid (p :: trs la ca da qs) H3) (.ref o2) (eW k0) := words_dp (.inl (.inl (hid_at ho2 o2S)))
  -- the class told of it
  refine ⟨_, rfl, _, rfl, p :: trs la ca da qs, n, .ref o2, N, k0, rfl, c3.live, c3.made, g, dol, hset2, fun a H4 ys g1 lay1 ok1 k4 na ha hda _ => ?_⟩
  obtain ⟨es1, el1⟩ := class_srt g hst lay ok hk0 lay1 ok1
  rw [es1] at hda
  have c4 := c3.same k4
  have aS : a ∉ p :: trs la ca da qs := not_mem_of c3.live na
  obtain ⟨da0, dx, edu, hdu, hdx⟩ := dp_list c4.due
  cases edu
  obtain ⟨x1, x2, rfl, hx1, hx2⟩ := da2 hdx
  have kf := keys_fine g ok
  refine ⟨_, rfl, due, _, 0, _, rfl, rfl, hid_le.seq hdu, at0, p :: trs la ca da qs, _, _, True, rfl, c4.live, exact_data (.lst (.inl (.inl (hid_at ha aS))) hda) hx1 ⟨kf.1.mono (by decide), kf.2, by have := kf.1.dep; omega⟩, fun bb H5 hbb k5 => ?_⟩
  rw [hbb.mpr True.intro]
  refine ⟨true, rfl, if_no rfl ?_⟩
  have c5 := c4.same k5
  have dol5 := Dp.mono (k4.trans k5).hid0 dol
  refine ⟨_, rfl, _, rfl, p :: trs la ca da qs, n, .ref o2, N, k0, rfl, c5.live, c5.made, g, dol5, hset2, fun a6 H6 g2 lay2 ok2 k6 na6 ha6 => ?_⟩
  obtain ⟨es2, el2⟩ := class_srt g hst lay ok hk0 lay2 ok2
  have c6 := c5.same k6
  have du6 : SqL K H6 due [x1, x2] := hid_le.seq ((k5.trans k6).hid0.seq hdu)
  obtain ⟨a1, l1, rfl, hl1, hd1⟩ := dp_list hx1
  have hl16 : SqL K H6 a1 l1 := hid_le.seq ((k5.trans k6).hid0.seq hl1)
  refine ⟨a6, _, rfl, .inl (.inl ha6), _, rfl, due, _, 0, _, rfl, rfl, du6, at0, a1, l1, rfl, .inl hl16, ?_⟩
  have esum : (deedsF g2).sum = (l1.length : Int) := by
    rw [deeds_sum, el2, DpAll.length hd1, List.length_map, srt_len, keysF, List.length_map]
  rw [esum]
  refine ⟨[p], _, _, True, rfl, purse_live c6.pu, exact_data (.int _) (.int _) ⟨fine_int.mono (by decide), rfl, by rw [PyData.depth]; decide⟩, fun bb2 H7 hbb2 k7 => ?_⟩
  rw [hbb2.mpr True.intro]
  refine ⟨true, rfl, if_no rfl ?_⟩
  have c7 := c6.same k7
  -- kept, some
  refine ⟨_, rfl, la, _, rfl, .inl (.inl (.inl c7.lat)), fun kp0 nk => ?_⟩
  have k8 : Kp [] H7 (upd H7 kp0 (.lst ((farT f).map L2.V.str))) := kp_new nk
  have hk8 : (upd H7 kp0 (.lst ((farT f).map L2.V.str))) kp0 = some (.lst ((farT f).map L2.V.str)) := upd_same
  have kS : kp0 ∉ p :: trs la ca da qs := not_mem_of c7.live nk
  have c8 := c7.same k8
  generalize (upd H7 kp0 (.lst ((farT f).map L2.V.str))) = H8 at k8 hk8 c8 ⊢
  have to8 : SqL K H8 told [.ref ca, .ref da] := .inl (.inl (hid_le _ _ c8.told))
  refine ⟨_, rfl, told, _, 0, _, rfl, rfl, to8, at0, _, rfl, ca, told, qs.map L2.V.ref, _, rfl, rfl, .inl (.inl c8.cls), to8, by rw [List.length_map, sizeLine_eq]; have := c8.few; show qs.length + 2 ≤ _; omega, fun q1 nq1 => ?_⟩
  have k9 : Kp [] H8 (upd H8 q1 (.lst (qs.map L2.V.ref ++ [.ref ca, .ref da]))) := kp_new nq1
  have hq1 : (upd H8 q1 (.lst (qs.map L2.V.ref ++ [.ref ca, .ref da]))) q1 = some (.lst (qs.map L2.V.ref ++ [.ref ca, .ref da])) := upd_same
  have c9 := c8.same k9
  generalize (upd H8 q1 (.lst (qs.map L2.V.ref ++ [.ref ca, .ref da]))) = H9 at k9 hq1 c9 ⊢
  refine ⟨_, rfl, by show 1 ≤ sizeLine; decide, fun q2 nq2 => ?_⟩
  have k10 : Kp [] H9 (upd H9 q2 (.lst [.ref la])) := kp_new nq2
  have hq2 : (upd H9 q2 (.lst [.ref la])) q2 = some (.lst [.ref la]) := upd_same
  have c10 := c9.same k10
  generalize (upd H9 q2 (.lst [.ref la])) = H10 at k10 hq2 c10 ⊢
  refine ⟨q1, q2, _, _, rfl, rfl, .inl (.inl (k10.same _ _ hq1)), .inl (.inl hq2), by rw [List.length_append, List.length_map, sizeLine_eq]; have := c8.few; show qs.length + 2 + 1 ≤ _; omega, fun q3 nq3 => ?_⟩
  have ei : (qs.map L2.V.ref ++ [.ref ca, .ref da]) ++ [.ref la] = (qs ++ [ca, da] ++ [la]).map L2.V.ref := by simp
  rw [ei]
  have k11 : Kp [] H10 (upd H10 q3 (.lst ((qs ++ [ca, da] ++ [la]).map L2.V.ref))) := kp_new nq3
  have hq3 : (upd H10 q3 (.lst ((qs ++ [ca, da] ++ [la]).map L2.V.ref))) q3 = some (.lst ((qs ++ [ca, da] ++ [la]).map L2.V.ref)) := upd_same
  have q3S : q3 ∉ p :: trs la ca da qs := not_mem_of c10.live nq3
  have c11 := c10.same k11
  have hk11 := k11.same _ _ (k10.same _ _ (k9.same _ _ hk8))
  generalize (upd H10 q3 (.lst ((qs ++ [ca, da] ++ [la]).map L2.V.ref))) = H11 at k11 hq3 c11 hk11 ⊢
  have q3T : q3 ∉ trs la ca da qs := fun z => q3S (List.mem_cons_of_mem _ z)
  have hmem : ∀ z ∈ qs ++ [ca, da] ++ [la], z ∈ trs la ca da qs := fun z hz => by
    simp only [trs, List.mem_append, List.mem_cons, List.not_mem_nil, or_false] at hz ⊢
    rcases hz with (hz | rfl | rfl) | rfl
    · exact .inr (.inr (.inr hz))
    · exact .inr (.inl rfl)
    · exact .inr (.inr (.inl rfl))
    · exact .inl rfl
  have hlen : (qs ++ [ca, da] ++ [la]).length = qs.length + 3 := by simp
  refine ⟨_, _, rfl, ?_⟩
  -- what was told is spoilt
  refine ⟨_, rfl, q3, rfl, ⟨_, .inl (.inl hq3)⟩, ?_⟩
  refine for_it (walkG (items := qs ++ [ca, da] ++ [la]) (g := L2.V.ref)) (fun i σ H' => ∃ o8 : Option L2.V, σ = [some (.ref p), some v, some n, some u, some (.ref due), o5, o6, some (.ref o2), o8, some (.ref d), some (.ref hd), o11, o12, some (.ref told), some (.ref la), o15, o16, some (.ref kp0), some (.ref q3), o19, o20, none, none, none] ∧ Kp (trs la ca da qs) H11 H' ∧ ∀ a ∈ trs la ca da qs, ∃ xs, H' a = some (.lst xs) ∧ xs.length ≤ 1000 + i)
    ⟨_, rfl, .refl, c11.lis⟩ (fun i σ H' _ ⟨_, _, kk, _⟩ => .inl (.inl (kk.at q3T hq3))) ?_ ?_
  · rintro i x σ Ha Hb hi ⟨o8, rfl, kk, ll⟩ ⟨rfl, y⟩
    have hg := List.getElem?_eq_getElem hi
    obtain rfl := y _ hg
    have hz := hmem _ (List.getElem_mem hi)
    have hi2 : i < qs.length + 3 := by omega
    generalize (qs ++ [ca, da] ++ [la])[i] = z at hz
    obtain ⟨xs, hxs, hxl⟩ := ll z hz
    refine ⟨_, rfl, .inl ⟨rfl, _, .inl (.inl hxs)⟩, z, xs, _, rfl, rfl, hxs, by rw [sizeLine_eq]; have := c11.few; omega, ?_⟩
    refine ⟨_, rfl, kk.own hz, fun a ha => ?_⟩
    by_cases e : a = z
    · subst e
      exact ⟨_, upd_same, by rw [List.length_append, List.length_singleton]; omega⟩
    · obtain ⟨ys, h1, h2⟩ := ll a ha
      exact ⟨ys, by rw [upd_ne e]; exact h1, by omega⟩
  rintro σ Ha ⟨o8, rfl, kk, ll⟩
  have sT : Same (hid (p :: trs la ca da qs) H11) (hid (p :: trs la ca da qs) Ha) := kk.hid fun b hb => List.mem_cons_of_mem _ hb
  have pT : p ∉ trs la ca da qs := fun z => c.p0 (c.fre p z)
  have Pa := c11.pu.kp kk pT
  have La := kk.live c11.live
  have mad := c11.made.mono sT
  have hset := Dp.mono sT c11.set
  have hhnd := Dp.mono sT c11.hnd
  have hdue := Dp.mono sT c11.due
  have hkept : Dp K (hid (p :: trs la ca da qs) Ha) (.ref kp0) (eW (farT f)) := Dp.mono sT (words_dp (.inl (.inl (hid_at hk11 kS))))
  have hsh := ((set_fine g hst).1).shaped (by decide)
  refine ⟨_, rfl, _, rfl, eW st, eW st, Dp.mono hid_le hhnd, Dp.mono hid_le hset, hsh, hsh, _, rfl, ?_⟩
  rw [eqv_words2]
  refine if_no (by rw [decide_eq_true rfl]; rfl) ?_
  -- told again
  refine ⟨_, rfl, _, rfl, p :: trs la ca da qs, n, u, N, st, rfl, La, mad, g, hset, hst, fun a1 Hb ys1 g1 lay1 ok1 k1 na1 ha1 hda1 _ => ?_⟩
  have eg1 : g1 = f := lay1.det lay
  rw [eg1] at hda1
  have a1S : a1 ∉ p :: trs la ca da qs := not_mem_of La na1
  refine ⟨_, rfl, _, rfl, p :: trs la ca da qs, n, u, N, st, rfl, k1.live La, mad.mono k1.hid0, g, Dp.mono k1.hid0 hset, hst, fun a2 Hc g2 lay2 ok2 k2 na2 ha2 => ?_⟩
  have eg2 : g2 = f := lay2.det lay
  rw [eg2] at ha2
  have k12 := k1.trans k2
  have a2S : a2 ∉ p :: trs la ca da qs := not_mem_of (k1.live La) na2
  refine ⟨_, rfl, _, rfl, p :: trs la ca da qs, n, u, N, st, rfl, k12.live La, mad.mono k12.hid0, g, Dp.mono k12.hid0 hset, hst, fun a3 Hd g3 lay3 ok3 k3 na3 ha3 => ?_⟩
  have eg3 : g3 = f := lay3.det lay
  rw [eg3] at ha3
  have k13 := k12.trans k3
  have a3S : a3 ∉ p :: trs la ca da qs := not_mem_of (k12.live La) na3
  refine ⟨by show 3 ≤ sizeLine; decide, fun l1 nl1 => ?_⟩
  have ke : Kp [] Hd (upd Hd l1 (.lst [.ref a1, .ref a2, .ref a3])) := kp_new nl1
  have hl1' : (upd Hd l1 (.lst [.ref a1, .ref a2, .ref a3])) l1 = some (.lst [.ref a1, .ref a2, .ref a3]) := upd_same
  have l1S : l1 ∉ p :: trs la ca da qs := not_mem_of (k13.live La) nl1
  generalize (upd Hd l1 (.lst [.ref a1, .ref a2, .ref a3])) = He at ke hl1' ⊢
  have k14 := k13.trans ke
  refine ⟨_, rfl, _, rfl, by show 1 ≤ sizeLine; decide, fun l2 nl2 => ?_⟩
  have kf2 : Kp [] He (upd He l2 (.lst [.ref kp0])) := kp_new nl2
  have hl2 : (upd He l2 (.lst [.ref kp0])) l2 = some (.lst [.ref kp0]) := upd_same
  have l2S : l2 ∉ p :: trs la ca da qs := not_mem_of (k14.live La) nl2
  generalize (upd He l2 (.lst [.ref kp0])) = Hf at kf2 hl2 ⊢
  have k15 := k14.trans kf2
  refine cat_ans (S := p :: trs la ca da qs) (k15.live La) (Dp.mono k15.hid0 hdue) (.lst (ds := [eW (farT f)]) (.inl (.inl (hid_at hl2 l2S))) (.cons (Dp.mono k15.hid0 hkept) .nil)) (by show 2 + 1 ≤ _; decide) fun c1' xs1 nc1 hlc da1 dp1 => ?_
  have k16 : Kp [] Hf (upd Hf c1' (.lst xs1)) := kp_new nc1
  generalize (upd Hf c1' (.lst xs1)) = Hg at k16 dp1 ⊢
  have k17 := k15.trans k16
  have dints : DpAll K (hid (p :: trs la ca da qs) Hg) ((deedsF f).map L2.V.int) ((deedsF f).map .int) := ints_da
  have hstrs : DpAll K (hid (p :: trs la ca da qs) Hg) ((farT f).map L2.V.str) ((farT f).map .str) := strs_da
  have k3g := (ke.trans kf2).trans k16
  have k2g := k3.trans k3g
  have k1g := k2.trans k2g
  have lhs : Dp K (hid (p :: trs la ca da qs) Hg) (.ref l1) (.list [.list ((srt eW (keysF f)).map eW), .list ((deedsF f).map .int), eW (farT f)]) :=
    .lst (.inl (.inl (hid_at ((kf2.trans k16).same _ _ hl1') l1S))) (.cons (.lst (.inl (.inl (hid_at (k1g.same _ _ ha1) a1S))) (DpAll.mono k1g.hid0 hda1)) (.cons (.lst (.inl (.inl (hid_at (k2g.same _ _ ha2) a2S))) dints) (.cons (.lst (.inl (.inl (hid_at (k3g.same _ _ ha3) a3S))) hstrs) .nil)))
  obtain ⟨hft, _⟩ := farT_is ok lay.start
  have fin : Fine 60 (.list [.list ((srt eW (keysF f)).map eW), .list ((deedsF f).map .int), eW (farT f)]) ∧ slim (.list [.list ((srt eW (keysF f)).map eW), .list ((deedsF f).map .int), eW (farT f)]) = true ∧ (PyData.list [.list ((srt eW (keysF f)).map eW), .list ((deedsF f).map .int), eW (farT f)]).depth < 8 := fine_few (n := 2) (fun x hx => by
    simp only [List.mem_cons, List.not_mem_nil, or_false] at hx
    rcases hx with rfl | rfl | rfl
    · exact keys_fine g ok
    · exact deeds_fine g ok
    · exact set_fine g (ok.sets _ hft)) (by decide) (by show 3 ≤ 1000; decide)
  refine ⟨p :: trs la ca da qs, _, _, True, rfl, k17.live La, exact_data lhs dp1 fin, fun bb3 Hh hbb3 kh => ?_⟩
  rw [hbb3.mpr True.intro]
  have kz := k17.trans kh
  exact k Hh (kp_fresh c11.kp (kk.trans kz.nil) c.fre) ((Pa.kp kz (by simp)).mono (by omega))
end
end K41
namespace K41
open PySem PySem.Spec PyProof.Rows L2 PySem.W
theorem same_ans {K : PySem.W.Frag} {S : List Addr} {H : Hp} {v : V} {hit : List Str → Bool} {Q : VK} (E : XK) (hS : Live S H) (h : VHit K (hid S H) v hit) (k : ∀ v' H', Kp [] H H' → VNote K (hid S H') v v' → Q v' H') : spSame K 8 [v] H Q E := by
  rcases h with ⟨d, h1, h2, h3, _⟩ | ⟨h1, _⟩
  · exact .inl ⟨S, v, d, rfl, hS, h1, by have := h2.dep; omega, h3, fun v' H' kp hv => k v' H' kp (.inl ⟨d, Dp.mono kp.hid0 h1, hv, h2, h3⟩)⟩
  · exact .inr ⟨v, rfl, h1.mono hid_le, by decide, fun a H' kp na ha => k _ H' kp (.inr ⟨h1.mono kp.hid0, a, rfl, .inl (hid_at ha (not_mem_of hS na))⟩)⟩
theorem b_iff {a b : Bool} (h : a = true ↔ b = true) : a = b := Bool.eq_iff_iff.mpr h
section
variable {P : Program} {w : World} {K : PySem.W.Frag} {mg : Str → Option Value} {base : Heap} {C : Addr}
theorem cr3 (Y : Env K mg C) {f0 : Addr} {cdv : Value} {A : Around} {outer : List PySem.Env} {s : Shared} {Hs : Hp} {E : XK} (hr : Room 8 (A.deeper (envOfC (Str.ofString "_law_class_right") (defScope s_l_class_right) s.heap.objs.size f0 cdv)))
    {H0 : Hp} {p : Addr} {N : Net} {st : List Str} (g : Good N) (hst : IsSet N st) {Q : VK} {M : Nat} (hM : M ≤ 1000000000) (k : ∀ H', Kp [p] H0 H' → Purse H' p M → Q (.bl true) H') :
    ∃ t, PSs (cxOf CX0 P w K mg base crN (Str.ofString "_law_class_right") (defScope s_l_class_right) f0 cdv A outer s Hs E).nox ((defBody s_l_class_right).drop 9) t ∧
      ∀ (f : Fd), Layers N st f → KeysOk N f → ∀ (v n u fr : L2.V) (due hd told la d ca da vl : Addr) (od : Obj) (qs : List Addr) (m : Nat) (H : Hp) (xs : List L2.V) (o6 o12 o16 o19 o20 : Option L2.V), m + 1 ≤ M → CR K C H0 p N st f v n u due hd told la d ca da od qs m H → NetV K C (hid [p] H) fr N → H vl = some (.lst xs) → vl ≠ p → VAll K (hid [p] H) xs →
        t { nx := fun _ H' => Q .non H', rt := Q } [some (.ref p), some v, some n, some u, some (.ref due), some (.ref vl), o6, none, none, some (.ref d), some (.ref hd), some (.int (mostF f : Int)), o12, some (.ref told), some (.ref la), some fr, o16, none, none, o19, o20, none, none, none] H := by
  have hu := hu_of hr
  obtain ⟨t4, p4, r4⟩ := cr4 Y hr g hst hM k
  refine ⟨_, (pss_cons (ps_for PassesOwn.never rfl (K_pil (K := K) rfl (pv 5)) (pg_name (i := 6) sc_l_class_right.nd rfl (Or.inr rfl))
    (pss_cons (ps_par (i := 19) (j := 20) rfl sc_l_class_right.nd rfl rfl (by decide) rfl rfl (pa_cons (pe_def (c_l_same Y 8) (hr.mono (by decide)) (pa_cons (pv 6) pa_nil)) (pa_cons (pe_callB (K_any (K := K) rfl rfl) (by rfl) Y.n_any (by decide +kernel) (pa_cons (pe_lc (own := [("_law_here", 23)]) rfl sc_l_class_right.nd (K_pil (K := K) rfl (pe_def (c_l_places Y) (hr.mono (by decide)) (pa_cons (pv 9) (pa_cons (pv 11) pa_nil)))) (blkOk_by (own := [("_law_here", 23)]) (N := ["_law_purse_here", "_law_net_here", "_law_made", "_law_setting_here", "_law_due", "_law_values", "_law_value", "_law_other", "_law_part_here", "_law_layers", "_law_handed", "_law_most", "_law_numbers", "_law_told", "_law_late", "_law_fresh", "_law_far_here", "_law_kept", "_law_some", "_law_noted", "_law_right", "_law_number", "_law_turn", "_law_here"]) (sc := defScope s_l_class_right) (by decide +kernel)) (fun _ _ _ _ _ => (pg_name (i := 23) sc_l_class_right.nd rfl (Or.inl rfl))) (fun _ _ _ _ _ => pts_nil) (fun _ _ _ _ _ => (pe_def (c_l_exact Y 8) (hr.mono (by decide)) (pa_cons (pv 6) (pa_cons (pv 23) pa_nil))))) pa_nil)) pa_nil)) rfl)
    (pss_one (ps_if (pt_not (pt_val (pe_def (c_l_exact Y 8) (hr.mono (by decide)) (pa_cons (pe_lst (pa_cons (pe_def (c3_is_farthest Y) (hr.mono (by decide)) (pa_cons (pv 15) (pa_cons (pv 3) (pa_cons (pv 6) pa_nil)))) (pa_cons (pe_def (c3_is_farthest Y) (hr.mono (by decide)) (pa_cons (pv 2) (pa_cons (pv 10) (pa_cons (pv 6) pa_nil)))) (pa_cons (pv 6) pa_nil)))) (pa_cons (pe_lst (pa_cons (pv 20) (pa_cons (pv 20) (pa_cons (pv 19) pa_nil)))) pa_nil))))) (pss_one (ps_ret pe_bl)) pss_nil))))
    p4), ?_⟩
  rintro f lay ok v n u fr due hd told la d ca da vl od qs m H xs o6 o12 o16 o19 o20 hm c hfr hvl hvp hall
  have three : 3 ≤ sizeLine := by decide
  have few := ok.few g
  refine ⟨_, rfl, vl, rfl, ⟨_, .inl (.inl hvl)⟩, ?_⟩
  refine for_it walk_list (fun i σ H' => ∃ o6 o19 o20 : Option L2.V, σ = [some (.ref p), some v, some n, some u, some (.ref due), some (.ref vl), o6, none, none, some (.ref d), some (.ref hd), some (.int (mostF f : Int)), o12, some (.ref told), some (.ref la), some fr, o16, none, none, o19, o20, none, none, none] ∧ Kp [] H H')
    ⟨_, _, _, rfl, .refl⟩ (fun i σ H' _ ⟨_, _, _, _, kk⟩ => .inl (.inl (kk.same _ _ hvl))) ?_ ?_
  · rintro i x σ Ha Hb hi ⟨o6, o19, o20, rfl, kk⟩ ⟨rfl, hx⟩
    have cb := c.same kk
    obtain ⟨hit, hv⟩ := hall x (List.mem_of_getElem? hx)
    have hv := hv.mono (kk.hid0 (S := [p]))
    have hfb := hfr.mono (kk.hid0 (S := [p]))
    -- noted
    refine ⟨_, rfl, same_ans (S := [p]) E0 (purse_live cb.pu) hv fun nv H1 k1 hn1 => ?_⟩
    have c1 := cb.same k1
    -- right
    refine ⟨_, rfl, _, rfl, [p], d, od, (mostF f : Int), N, f, rfl, purse_live c1.pu, c1.lay, g, ok, fun v3 H3 ks3 k3 hks3 hl3 hv3 => ?_⟩
    have c3 := c1.same k3
    obtain ⟨a3, x3, rfl, ha3, hx3⟩ := dp_list hv3
    refine ⟨a3, rfl, ⟨_, hid_le.seq ha3⟩, fun D hD => ?_⟩
    refine lcS (K := K) (items := ks3) (S := [p]) (walkD (f := eW) hx3) (fun z => .bool (hit z)) hD (purse_live c3.pu) (by omega) (fun H' kp => kp.same.seq (hid_le.seq ha3)) ?_ ?_
    · rintro j z x1 Hc Hd Yes hj kp hL ⟨rfl, y⟩ yes
      have hz := ((hks3 z).mp (List.mem_of_getElem? hj)).1
      have sm : Same (hid [p] H3) (hid (D :: [p]) Hd) := by
        rw [← hid_cons hD]
        exact kp.hid0
      refine ⟨rfl, _, rfl, _, rfl, D :: [p], x, x1, hit z = true, rfl, hL, ((hv.mono (k1.trans k3).hid0).mono sm).ex (g.lows (ok.sets z hz)) (Dp.mono sm (y z hj)), fun b H' hb kp' => ?_⟩
      rw [b_iff hb]
      exact yes _ _ kp' (.bl _)
    intro H4 ys k4 hL4 hl4 hle4 da4 dp4
    have ey := da_bools da4
    rw [ey] at hl4
    have c4 := c3.same k4
    refine ⟨D, ks3.map hit, rfl, .inl (.inl hl4), ?_⟩
    rw [farH_any hks3]
    refine ⟨_, _, rfl, ?_⟩
    have k14 := (k1.trans k3).trans k4
    -- asked
    refine ⟨_, rfl, _, rfl, _, rfl, [p], fr, u, x, N, st, hit, rfl, purse_live c4.pu, hfb.mono k14.hid0, g, Dp.mono CR.sub c4.set, hst, hv.mono k14.hid0, fun H5 g5 lay5 ok5 k5 => ?_⟩
    have eg5 : g5 = f := lay5.det lay
    rw [eg5]
    have c5 := c4.same k5
    have k15 := k14.trans k5
    refine ⟨_, rfl, _, rfl, _, rfl, [p], n, .ref hd, x, N, st, hit, rfl, purse_live c5.pu, c5.made.mono CR.sub, g, Dp.mono CR.sub c5.hnd, hst, hv.mono k15.hid0, fun H6 g6 lay6 ok6 k6 => ?_⟩
    have eg6 : g6 = f := lay6.det lay
    rw [eg6]
    have c6 := c5.same k6
    refine ⟨_, rfl, three, fun l1 nl1 => ?_⟩
    have ke : Kp [] H6 (upd H6 l1 (.lst [.bl (farH f hit), .bl (farH f hit), x])) := kp_new nl1
    have hl1 : (upd H6 l1 (.lst [.bl (farH f hit), .bl (farH f hit), x])) l1 = some (.lst [.bl (farH f hit), .bl (farH f hit), x]) := upd_same
    have l1S : l1 ∉ [p] := not_mem_of (purse_live c6.pu) nl1
    have c7 := c6.same ke
    generalize (upd H6 l1 (.lst [.bl (farH f hit), .bl (farH f hit), x])) = H7 at ke hl1 c7 ⊢
    refine ⟨_, rfl, _, rfl, _, rfl, three, fun l2 nl2 => ?_⟩
    have kf : Kp [] H7 (upd H7 l2 (.lst [.bl (farH f hit), .bl (farH f hit), nv])) := kp_new nl2
    have hl2 : (upd H7 l2 (.lst [.bl (farH f hit), .bl (farH f hit), nv])) l2 = some (.lst [.bl (farH f hit), .bl (farH f hit), nv]) := upd_same
    have l2S : l2 ∉ [p] := not_mem_of (purse_live c7.pu) nl2
    have c8 := c7.same kf
    generalize (upd H7 l2 (.lst [.bl (farH f hit), .bl (farH f hit), nv])) = H8 at kf hl2 c8 ⊢
    have k18 := (((k3.trans k4).trans k5).trans k6).trans (ke.trans kf)
    refine ⟨[p], _, _, True, rfl, purse_live c8.pu, exact3 (r := farH f hit) (.inl (.inl (hid_at (kf.same _ _ hl1) l1S))) (.inl (.inl (hid_at hl2 l2S))) (hn1.mono k18.hid0), fun bb H9 hbb k9 => ?_⟩
    rw [hbb.mpr True.intro]
    refine ⟨true, rfl, if_no rfl ?_⟩
    exact ⟨_, _, _, rfl, ((kk.trans k1).trans k18).trans k9⟩
  rintro σ Ha ⟨o6, o19, o20, rfl, kk⟩
  exact r4 f lay ok v n u due hd told la d ca da od qs m Ha _ _ _ _ _ _ _ _ hm (c.same kk)
end
end K41
namespace K41
open PySem PySem.Spec PyProof.Rows L2 PySem.W
theorem shuf_keys {zs : List (Addr × List Str)} {f : Fd} (hz : ∀ b ∈ zs, b.2 ∈ keysF f) : ∀ {fs : List PyData}, (∀ x ∈ fs, x ∈ zs.map fun b : Addr × List Str => eK b.2) → ∃ ks : List (List Str), fs = ks.map eK ∧ ∀ k ∈ ks, k ∈ keysF f
  | [], _ => ⟨[], rfl, by simp⟩
  | x :: fs, h => by
    obtain ⟨ks, rfl, hk⟩ := shuf_keys hz (fs := fs) fun y hy => h y (List.mem_cons_of_mem _ hy)
    obtain ⟨b, hb, rfl⟩ := List.mem_map.mp (h x (List.mem_cons_self ..))
    refine ⟨b.2 :: ks, rfl, fun k hk' => ?_⟩
    rcases List.mem_cons.mp hk' with rfl | hk'
    · exact hz b hb
    · exact hk k hk'
/-- lists joined, of values -/
theorem cat_raw {K : PySem.W.Frag} {a b : Addr} {xs ys : List V} {H : Hp} {Q : VK} (ha : SqL K H a xs) (hb : SqL K H b ys) (hl : xs.length + ys.length ≤ 100000) (k : ∀ p, H p = none → Q (.ref p) (upd H p (.lst (xs ++ ys)))) : RCat K (.ref a) (.ref b) H Q :=
  ⟨⟨a, b, xs, ys, rfl, rfl, ha, hb, by rw [sizeLine_eq]; omega, k⟩⟩
section
variable {P : Program} {w : World} {K : PySem.W.Frag} {mg : Str → Option Value} {base : Heap} {C : Addr}
theorem CR.late {H0 H : Hp} {p : Addr} {N : Net} {st : List Str} {f : Fd} {v n u : V} {due hd told la d ca da : Addr} {od : Obj} {qs : List Addr} {m : Nat} (h : CR K C H0 p N st f v n u due hd told la d ca da od qs m H) : Dp K (hid [p] H) (.ref la) (eW (farT f)) :=
  words_dp (.inl (.inl (hid_at h.lat (h.ni (by simp [trs])))))
/-- other settings of the class, and others -/
theorem cr2c (Y : Env K mg C) {f0 : Addr} {cdv : Value} {A : Around} {outer : List PySem.Env} {s : Shared} {Hs : Hp} {E : XK} (hr : Room 8 (A.deeper (envOfC (Str.ofString "_law_class_right") (defScope s_l_class_right) s.heap.objs.size f0 cdv)))
    {H0 : Hp} {p : Addr} {N : Net} {st : List Str} (g : Good N) (hst : IsSet N st) {Q : VK} {M : Nat} (hM : M ≤ 1000000000) (k : ∀ H', Kp [p] H0 H' → Purse H' p M → Q (.bl true) H') :
    ∃ t, PSs (cxOf CX0 P w K mg base crN (Str.ofString "_law_class_right") (defScope s_l_class_right) f0 cdv A outer s Hs E).nox ((defBody s_l_class_right).drop 7) t ∧
      ∀ (f : Fd), Layers N st f → KeysOk N f → ∀ (v n u fr : L2.V) (due hd told la d ca da vl : Addr) (od : Obj) (qs : List Addr) (m : Nat) (H : Hp) (xs : List L2.V) (o12 o16 : Option L2.V), m + 400 ≤ M → CR K C H0 p N st f v n u due hd told la d ca da od qs m H → NetV K C (hid [p] H) fr N → H vl = some (.lst xs) → vl ≠ p → xs.length ≤ 100 → VAll K (hid [p] H) xs →
        t { nx := fun _ H' => Q .non H', rt := Q } [some (.ref p), some v, some n, some u, some (.ref due), some (.ref vl), none, none, none, some (.ref d), some (.ref hd), some (.int (mostF f : Int)), o12, some (.ref told), some (.ref la), some fr, o16, none, none, none, none, none, none, none] H := by
  have hu := hu_of hr
  obtain ⟨t3, p3, r3⟩ := cr3 Y hr g hst hM k
  refine ⟨_, (pss_cons (ps_set (i := 5) sc_l_class_right.nd rfl (Or.inl rfl) (pe_op (K_cat (K := K) rfl) (pe_op (K_cat (K := K) rfl) (pv 5) (pe_lc (own := [("_law_here", 23)]) rfl sc_l_class_right.nd (K_pil (K := K) rfl (pe_slice (K_slL (K := K) rfl) (pe_def (c_l_shuffled Y) (hr.mono (by decide)) (pa_cons (pv 0) (pa_cons (pe_callB (call_sortT rfl (hu100 hr)) (by rfl) Y.n_sorted (by decide +kernel) (pa_cons (pv 9) pa_nil)) pa_nil))) po_none (po_some pe_int))) (blkOk_by (own := [("_law_here", 23)]) (N := ["_law_purse_here", "_law_net_here", "_law_made", "_law_setting_here", "_law_due", "_law_values", "_law_value", "_law_other", "_law_part_here", "_law_layers", "_law_handed", "_law_most", "_law_numbers", "_law_told", "_law_late", "_law_fresh", "_law_far_here", "_law_kept", "_law_some", "_law_noted", "_law_right", "_law_number", "_law_turn", "_law_here"]) (sc := defScope s_l_class_right) (by decide +kernel)) (fun _ _ _ _ _ => (pg_name (i := 23) sc_l_class_right.nd rfl (Or.inl rfl))) (fun _ _ _ _ _ => pts_nil) (fun _ _ _ _ _ => (pe_callTy (K_list (K := K) rfl) (by rfl) Y.n_list (by decide +kernel) (pa_cons (pv 23) pa_nil))))) (pe_lc (own := [("_law_turn", 22)]) rfl sc_l_class_right.nd (pi_range1 rfl Y.n_range (pa_cons pe_int pa_nil)) (blkOk_by (own := [("_law_turn", 22)]) (N := ["_law_purse_here", "_law_net_here", "_law_made", "_law_setting_here", "_law_due", "_law_values", "_law_value", "_law_other", "_law_part_here", "_law_layers", "_law_handed", "_law_most", "_law_numbers", "_law_told", "_law_late", "_law_fresh", "_law_far_here", "_law_kept", "_law_some", "_law_noted", "_law_right", "_law_number", "_law_turn", "_law_here"]) (sc := defScope s_l_class_right) (by decide +kernel)) (fun _ _ _ _ _ => (pg_name (i := 22) sc_l_class_right.nd rfl (Or.inl rfl))) (fun _ _ _ _ _ => pts_nil) (fun _ _ _ _ _ => (pe_def (c_l_setting Y) (hr.mono (by decide)) (pa_cons (pv 0) (pa_cons (pv 1) pa_nil)))))))
    (pss_cons (ps_set (i := 5) sc_l_class_right.nd rfl (Or.inl rfl) (pe_op (K_cat (K := K) rfl) (pe_op (K_cat (K := K) rfl) (pe_op (K_cat (K := K) rfl) (pv 5) (pe_slice (K_slL (K := K) rfl) (pe_def (c_l_places Y) (hr.mono (by decide)) (pa_cons (pv 9) (pa_cons (pv 11) pa_nil))) po_none (po_some pe_int))) (pe_slice (K_slL (K := K) rfl) (pe_def (c_l_places Y) (hr.mono (by decide)) (pa_cons (pv 9) (pa_cons (pe_callB (call_max2 rfl) (by rfl) Y.n_max (by decide +kernel) (pa_cons pe_int (pa_cons (pe_op op_sub (pv 11) pe_int) pa_nil))) pa_nil))) po_none (po_some pe_int))) (pe_lst (pa_cons (pe_def (c_l_turned_stuck Y) (hr.mono (by decide)) (pa_cons (pv 1) (pa_cons (pv 14) pa_nil))) pa_nil))))
    p3)), ?_⟩
  rintro f lay ok v n u fr due hd told la d ca da vl od qs m H xs o12 o16 hm c hfr hvl hvp hxl hall
  have few := ok.few g
  have pm : p ∈ [p] := List.mem_singleton.mpr rfl
  -- four of the class
  refine ⟨_, rfl, _, rfl, _, rfl, d, eF f, keysF f, rfl, .inr ⟨od, c.lay⟩, eF_keys f, fun sl bs nsl hbs hb => ?_⟩
  obtain ⟨hz, hzl⟩ := sorted_keys hbs hb
  generalize bs.mergeSort (leD encT) = zs at hz hzl nsl ⊢
  have kc : Kp [] H (upd H sl (.lst (zs.map fun b => L2.V.ref b.1))) := kp_new nsl
  have hsl : (upd H sl (.lst (zs.map fun b => L2.V.ref b.1))) sl = some (.lst (zs.map fun b => L2.V.ref b.1)) := upd_same
  have slS : sl ∉ [p] := not_mem_of (purse_live c.pu) nsl
  have hzd : DpAll K (hid [p] H) (zs.map fun b => L2.V.ref b.1) (zs.map fun b : Addr × List Str => eK b.2) := keys_dp c.pu.noTup fun b hb => (hz b hb).1
  have c1 := c.same kc
  generalize (upd H sl (.lst (zs.map fun b => L2.V.ref b.1))) = H1 at kc hsl c1 ⊢
  refine ⟨[p], p, m, _, [.list (zs.map fun b : Addr × List Str => eK b.2)], rfl, purse_live c1.pu, pm, c1.pu, by omega, .cons (.lst (.inl (.inl (hid_at hsl slS))) (DpAll.mono kc.hid0 hzd)) .nil, ⟨_, rfl, by rw [List.length_map]; omega⟩, fun ov H2 od2 k2 P2 hr3 hov => ?_⟩
  obtain ⟨es, fs, ees, rfl, hfs⟩ := hr3
  have q1 : zs.map (fun b : Addr × List Str => eK b.2) = es := PyData.list.inj (List.cons.inj ees).1
  rw [← q1] at hfs
  obtain ⟨ks, rfl, hks⟩ := shuf_keys (fun b hb => (hz b hb).2) hfs
  have c2 := c1.move k2 P2
  have k02 : Kp [p] H H2 := kc.nil.trans k2
  obtain ⟨a2, x2, rfl, ha2, hx2⟩ := dp_list hov
  refine ⟨4, rfl, a2, x2, rfl, hid_le.seq ha2, fun q nq => ?_⟩
  rw [show cutV x2 none (some 4) = x2.take 4 from cut_take x2 4]
  have k3 : Kp [] H2 (upd H2 q (.lst (x2.take 4))) := kp_new nq
  have hq : (upd H2 q (.lst (x2.take 4))) q = some (.lst (x2.take 4)) := upd_same
  have c3 := c2.same k3
  generalize (upd H2 q (.lst (x2.take 4))) = H3 at k3 hq c3 ⊢
  have dx3 : DpAll K (hid [p] H3) (x2.take 4) ((ks.take 4).map eK) := DpAll.mono k3.hid0 (by rw [List.map_take]; exact da_cut 4 hx2)
  refine ⟨q, rfl, ⟨_, .inl (.inl hq)⟩, fun D hD => ?_⟩
  refine lcS (K := K) (items := ks.take 4) (S := [p]) (walkD (f := eK) dx3) eW hD (purse_live c3.pu) (by rw [List.length_take]; omega) (fun H' kp => .inl (.inl (kp.same _ _ hq))) ?_ ?_
  · rintro j z x1 Hc Hd Yes hj kp hL ⟨rfl, y⟩ yes
    have sm : Same (hid [p] H3) (hid (D :: [p]) Hd) := by
      rw [← hid_cons hD]
      exact kp.hid0
    obtain ⟨tq, txs, rfl, htq, htx⟩ := dp_tuple (Dp.mono sm (y z hj))
    have etx := da_strs htx
    subst etx
    refine ⟨rfl, _, rfl, tq, _, rfl, .inr (Same.tup hid_le htq), fun pp npp => ?_⟩
    exact yes _ _ (kp_new npp) (words_dp (.inl (.inl (hid_at upd_same (not_mem_of hL npp)))))
  intro H4 ys4 k4 hL4 hl4 hle4 da4 dp4
  have c4 := c3.same k4
  have k04 : Kp [p] H H4 := (k02.trans k3.nil).trans k4.nil
  have pin : ∀ b ∈ [p], b ∈ [p] := fun b hb => hb
  have V4 : VAll K (hid [p] H4) xs := hall.mono (k04.hid pin)
  have W4 : VAll K (hid [p] H4) ys4 := vall_words (DpAll.mono hid_tail da4) fun z hz => by
    have hz := ok.sets z (hks z (List.mem_of_mem_take hz))
    exact ⟨g.lows hz, by have := hz.len g; omega⟩
  have vl4 : H4 vl = some (.lst xs) := k04.at (by simpa using hvp) hvl
  have l4 : ys4.length ≤ 4 := by
    rw [List.length_take] at hle4
    omega
  refine cat_raw (.inl (.inl vl4)) (.inl (.inl hl4)) (by omega) fun c5a nc5 => ?_
  have k5 : Kp [] H4 (upd H4 c5a (.lst (xs ++ ys4))) := kp_new nc5
  have hc5 : (upd H4 c5a (.lst (xs ++ ys4))) c5a = some (.lst (xs ++ ys4)) := upd_same
  have c5 := c4.same k5
  have V5 := (V4.append W4).mono (k5.hid0 (S := [p]))
  have e5p : c5a ≠ p := fun e => (c4.pu.ne nc5) e.symm
  generalize (upd H4 c5a (.lst (xs ++ ys4))) = H5 at k5 hc5 c5 V5 ⊢
  have k05 : Kp [p] H H5 := k04.trans k5.nil
  -- three drawn
  refine ⟨3, rfl, by decide, by decide, fun D2 hD2 => ?_⟩
  have hpD2 : p ≠ D2 := c5.pu.ne hD2
  refine lcRM (K := K) (S := [p]) (T := [p]) (n := (3 : Int).toNat) walk_range (fun i H' => Purse H' p (m + 300 + 8 * i)) (fun i ds => ∃ ss : List (List Str), ds = ss.map eW ∧ ss.length = i ∧ ∀ z ∈ ss, IsSet N z) hD2 (fun b hb => hb) (purse_live c5.pu) (by decide) (fun _ _ => trivial) ⟨[], rfl, rfl, by simp⟩ c5.pu (fun i H' o h => h.upd hpD2) ?_ ?_
  · rintro i x Hc Hd ds Yes hi kp hL hPi ⟨ss, rfl, hsl, hss⟩ ⟨rfl, y⟩ yes
    have hi3 : i < 3 := hi
    have sm : Same (hid [p] H5) (hid (D2 :: [p]) Hd) := by
      rw [← hid_cons hD2]
      exact kp.hid fun b hb => List.mem_cons_of_mem _ hb
    refine ⟨rfl, _, rfl, _, rfl, D2 :: [p], p, m + 300 + 8 * i, v, N, rfl, hL, List.mem_cons_of_mem _ pm, hPi, by omega, c5.lnet.mono sm, g, fun v' H' z kz Pz hz hv' => ?_⟩
    exact yes _ _ (eW z) kz (Pz.mono (by omega)) hv' ⟨ss ++ [z], by rw [List.map_append]; rfl, by rw [List.length_append, hsl]; rfl, fun y hy => by
      rcases List.mem_append.mp hy with hy | hy
      · exact hss y hy
      · rw [List.mem_singleton.mp hy]
        exact hz⟩
  rintro H6 ys6 ds6 k6 hL6 P6 ⟨ss, rfl, hsl, hss⟩ hl6 hle6 da6 dp6
  have c6 := c5.move k6 P6
  have V6 := V5.mono (k6.hid (S := [p]) pin)
  have W6 : VAll K (hid [p] H6) ys6 := vall_words (DpAll.mono hid_tail da6) fun z hz => ⟨g.lows (hss z hz), by have := (hss z hz).len g; omega⟩
  have hc6 : H6 c5a = some (.lst (xs ++ ys4)) := k6.at (by simpa using e5p) hc5
  have l6 : ys6.length ≤ 3 := hle6
  refine cat_raw (.inl (.inl hc6)) (.inl (.inl hl6)) (by rw [List.length_append]; omega) fun c7a nc7 => ?_
  have k7 : Kp [] H6 (upd H6 c7a (.lst (xs ++ ys4 ++ ys6))) := kp_new nc7
  have hc7 : (upd H6 c7a (.lst (xs ++ ys4 ++ ys6))) c7a = some (.lst (xs ++ ys4 ++ ys6)) := upd_same
  have c7 := c6.same k7
  have V7 := (V6.append W6).mono (k7.hid0 (S := [p]))
  have e7p : c7a ≠ p := fun e => (c6.pu.ne nc7) e.symm
  have l7 : (xs ++ ys4 ++ ys6).length ≤ 107 := by
    rw [List.length_append, List.length_append]
    omega
  generalize (xs ++ ys4 ++ ys6) = zs7 at hc7 V7 l7 k7 c7 ⊢
  generalize (upd H6 c7a (.lst zs7)) = H7 at k7 hc7 c7 V7 ⊢
  have fr7 : NetV K C (hid [p] H7) fr N := (hfr.mono ((k05.trans k6).hid pin)).mono k7.hid0
  -- of the last layers
  have cutW : ∀ {Hx : Hp} {ksx : List (List Str)} {xx : List L2.V}, DpAll K (hid [p] Hx) xx (ksx.map eW) → (∀ z ∈ ksx, z ∈ keysF f) → VAll K (hid [p] Hx) (xx.take 2) := fun {Hx ksx xx} h hk => vall_words (ks := ksx.take 2) (by rw [List.map_take]; exact da_cut 2 h) fun z hz => by
    have hz := ok.sets z (hk z (List.mem_of_mem_take hz))
    exact ⟨g.lows hz, by have := hz.len g; omega⟩
  refine ⟨_, rfl, _, rfl, _, rfl, [p], d, od, (mostF f : Int), N, f, rfl, purse_live c7.pu, c7.lay, g, ok, fun v8 H8 ks8 k8 hks8 hl8 hv8 => ?_⟩
  obtain ⟨a8, x8, rfl, ha8, hx8⟩ := dp_list hv8
  have c8 := c7.same k8
  refine ⟨2, rfl, a8, x8, rfl, hid_le.seq ha8, fun q9 nq9 => ?_⟩
  rw [show cutV x8 none (some 2) = x8.take 2 from cut_take x8 2]
  have k9 : Kp [] H8 (upd H8 q9 (.lst (x8.take 2))) := kp_new nq9
  have hq9 : (upd H8 q9 (.lst (x8.take 2))) q9 = some (.lst (x8.take 2)) := upd_same
  have c9 := c8.same k9
  have W9 : VAll K (hid [p] (upd H8 q9 (.lst (x8.take 2)))) (x8.take 2) := (cutW hx8 fun z hz => ((hks8 z).mp hz).1).mono k9.hid0
  generalize (upd H8 q9 (.lst (x8.take 2))) = H9 at k9 hq9 c9 W9 ⊢
  have k79 := k8.trans k9
  have lt2 : ∀ xx : List L2.V, (xx.take 2).length ≤ 2 := fun xx => by rw [List.length_take]; omega
  refine cat_raw (.inl (.inl (k79.same _ _ hc7))) (.inl (.inl hq9)) (by have := lt2 x8; omega) fun c10a nc10 => ?_
  have k10 : Kp [] H9 (upd H9 c10a (.lst (zs7 ++ x8.take 2))) := kp_new nc10
  have hc10 : (upd H9 c10a (.lst (zs7 ++ x8.take 2))) c10a = some (.lst (zs7 ++ x8.take 2)) := upd_same
  have c10 := c9.same k10
  have V10 := ((V7.mono (k79.hid0 (S := [p]))).append W9).mono (k10.hid0 (S := [p]))
  have e10 : c10a ≠ p := fun e => (c9.pu.ne nc10) e.symm
  have l10 : (zs7 ++ x8.take 2).length ≤ 109 := by
    rw [List.length_append]
    have := lt2 x8
    omega
  generalize (zs7 ++ x8.take 2) = zs10 at hc10 V10 l10 k10 c10 ⊢
  generalize (upd H9 c10a (.lst zs10)) = H10 at k10 hc10 c10 V10 ⊢
  have fr10 := fr7.mono (k79.trans k10).hid0
  refine ⟨_, rfl, _, rfl, _, _, rfl, rfl, _, _, rfl, [p], d, od, _, N, f, rfl, purse_live c10.pu, c10.lay, g, ok, fun v11 H11 ks11 k11 hks11 hl11 hv11 => ?_⟩
  obtain ⟨a11, x11, rfl, ha11, hx11⟩ := dp_list hv11
  have c11 := c10.same k11
  refine ⟨2, rfl, a11, x11, rfl, hid_le.seq ha11, fun q12 nq12 => ?_⟩
  rw [show cutV x11 none (some 2) = x11.take 2 from cut_take x11 2]
  have k12 : Kp [] H11 (upd H11 q12 (.lst (x11.take 2))) := kp_new nq12
  have hq12 : (upd H11 q12 (.lst (x11.take 2))) q12 = some (.lst (x11.take 2)) := upd_same
  have c12 := c11.same k12
  have W12 : VAll K (hid [p] (upd H11 q12 (.lst (x11.take 2)))) (x11.take 2) := (cutW hx11 fun z hz => ((hks11 z).mp hz).1).mono k12.hid0
  generalize (upd H11 q12 (.lst (x11.take 2))) = H12 at k12 hq12 c12 W12 ⊢
  have k1012 := k11.trans k12
  refine cat_raw (.inl (.inl (k1012.same _ _ hc10))) (.inl (.inl hq12)) (by have := lt2 x11; omega) fun c13a nc13 => ?_
  have k13 : Kp [] H12 (upd H12 c13a (.lst (zs10 ++ x11.take 2))) := kp_new nc13
  have hc13 : (upd H12 c13a (.lst (zs10 ++ x11.take 2))) c13a = some (.lst (zs10 ++ x11.take 2)) := upd_same
  have c13 := c12.same k13
  have V13 := ((V10.mono (k1012.hid0 (S := [p]))).append W12).mono (k13.hid0 (S := [p]))
  have l13 : (zs10 ++ x11.take 2).length ≤ 111 := by
    rw [List.length_append]
    have := lt2 x11
    omega
  generalize (zs10 ++ x11.take 2) = zs13 at hc13 V13 l13 k13 c13 ⊢
  generalize (upd H12 c13a (.lst zs13)) = H13 at k13 hc13 c13 V13 ⊢
  have fr13 := fr10.mono (k1012.trans k13).hid0
  obtain ⟨hft, _⟩ := farT_is ok lay.start
  have sft := ok.sets _ hft
  refine ⟨_, rfl, _, rfl, [p], v, [.ref la], N, [eW (farT f)], rfl, purse_live c13.pu, c13.lnet, g, .cons c13.late .nil, ⟨_, farT f, farT f, rfl, sft, rfl, sft⟩, fun v14 H14 d14 k14 hr14 hv14 => ?_⟩
  obtain ⟨s14, s14', _, _, rfl, hs14⟩ := hr14
  have c14 := c13.same k14
  refine ⟨by show 1 ≤ sizeLine; decide, fun q15 nq15 => ?_⟩
  have k15 : Kp [] H14 (upd H14 q15 (.lst [v14])) := kp_new nq15
  have hq15 : (upd H14 q15 (.lst [v14])) q15 = some (.lst [v14]) := upd_same
  have c15 := c14.same k15
  have W15 : VAll K (hid [p] (upd H14 q15 (.lst [v14]))) [v14] := fun z hz => by
    rw [List.mem_singleton.mp hz]
    exact (vok_words hv14 (g.lows hs14) (by have := hs14.len g; omega)).mono k15.hid0
  generalize (upd H14 q15 (.lst [v14])) = H15 at k15 hq15 c15 W15 ⊢
  have k1315 := k14.trans k15
  refine cat_raw (.inl (.inl (k1315.same _ _ hc13))) (.inl (.inl hq15)) (by show _ + 1 ≤ _; omega) fun c16a nc16 => ?_
  have k16 : Kp [] H15 (upd H15 c16a (.lst (zs13 ++ [v14]))) := kp_new nc16
  have c16 := c15.same k16
  have V16 := ((V13.mono (k1315.hid0 (S := [p]))).append W15).mono (k16.hid0 (S := [p]))
  have e16 : c16a ≠ p := fun e => (c15.pu.ne nc16) e.symm
  exact r3 f lay ok v n u fr due hd told la d ca da c16a od qs _ _ (zs13 ++ [v14]) none o12 o16 none none (by show m + 300 + 8 * 3 + 1 ≤ M; omega) c16 (fr13.mono (k1315.trans k16).hid0) upd_same e16 V16
end
end K41
namespace K41
open PySem PySem.Spec PyProof.Rows L2 PySem.W
theorem cut_words (ws : List Str) (lo hi : Option Int) : ∃ ms : List Str, cutV (ws.map L2.V.str) lo hi = ms.map L2.V.str ∧ (∀ x ∈ ms, x ∈ ws) ∧ ms.length ≤ ws.length := by
  unfold cutV
  rw [List.length_map]
  refine ⟨(ws.drop (HT.sIx ws.length 0 lo)).take (HT.sIx ws.length ws.length hi - HT.sIx ws.length 0 lo), by rw [List.map_take, List.map_drop], fun x hx => List.mem_of_mem_drop (List.mem_of_mem_take hx), ?_⟩
  rw [List.length_take, List.length_drop]
  omega
theorem joinL_mem : ∀ {ls : List (List Nat)} {x : Nat}, x ∈ TL.joinL [] ls → ∃ l ∈ ls, x ∈ l
  | [], x, h => by cases h
  | [l], x, h => ⟨l, List.mem_singleton.mpr rfl, h⟩
  | l :: q :: r, x, h => by
    have h' : x ∈ l ++ ([] ++ TL.joinL [] (q :: r)) := h
    rcases List.mem_append.mp h' with h' | h'
    · exact ⟨l, List.mem_cons_self .., h'⟩
    · obtain ⟨y, hy, e⟩ := joinL_mem (ls := q :: r) (x := x) h'
      exact ⟨y, List.mem_cons_of_mem _ hy, e⟩
theorem join_low {ws : List Str} (h : ∀ x ∈ ws, Low x) : Low (Txt.join "" ws) := by
  have e : (ws.map fun x => x.cps.toList).map SX.S = ws := by
    rw [List.map_map]
    have q : ∀ l : List Str, l.map (SX.S ∘ fun x => x.cps.toList) = l := fun l => by
      induction l with
      | nil => rfl
      | cons x l ih =>
        rw [List.map_cons, ih]
        rfl
    exact q ws
  have j := SX.join_S [] (ws.map fun x => x.cps.toList)
  rw [e] at j
  have j' : Txt.join "" ws = SX.S (TL.joinL [] (ws.map fun x => x.cps.toList)) := j
  rw [j']
  intro c hc
  obtain ⟨l, hl, hx⟩ := joinL_mem hc
  obtain ⟨w, hw, rfl⟩ := List.mem_map.mp hl
  exact h w hw c hx
theorem sum_le8 : ∀ {ws : List Str}, (∀ x ∈ ws, Word x) → (ws.map (·.length)).sum ≤ 8 * ws.length
  | [], _ => Nat.le_refl _
  | x :: ws, h => by
    rw [List.map_cons, List.sum_cons, List.length_cons]
    have h1 := (h x (List.mem_cons_self ..)).2.1
    have h2 := sum_le8 fun y hy => h y (List.mem_cons_of_mem _ hy)
    omega
section
variable {P : Program} {w : World} {K : PySem.W.Frag} {mg : Str → Option Value} {base : Heap} {C : Addr}
/-- the written values -/
theorem cr2b (Y : Env K mg C) {f0 : Addr} {cdv : Value} {A : Around} {outer : List PySem.Env} {s : Shared} {Hs : Hp} {E : XK} (hr : Room 8 (A.deeper (envOfC (Str.ofString "_law_class_right") (defScope s_l_class_right) s.heap.objs.size f0 cdv)))
    {H0 : Hp} {p : Addr} {N : Net} {st : List Str} (g : Good N) (hst : IsSet N st) {Q : VK} {M : Nat} (hM : M ≤ 1000000000) (k : ∀ H', Kp [p] H0 H' → Purse H' p M → Q (.bl true) H') :
    ∃ t, PSs (cxOf CX0 P w K mg base crN (Str.ofString "_law_class_right") (defScope s_l_class_right) f0 cdv A outer s Hs E).nox ((defBody s_l_class_right).drop 5) t ∧
      ∀ (f : Fd), Layers N st f → KeysOk N f → ∀ (v n u : L2.V) (due hd told la d ca da : Addr) (od : Obj) (qs : List Addr) (m : Nat) (H : Hp) (o12 : Option L2.V), m + 400 ≤ M → CR K C H0 p N st f v n u due hd told la d ca da od qs m H →
        t { nx := fun _ H' => Q .non H', rt := Q } [some (.ref p), some v, some n, some u, some (.ref due), none, none, none, none, some (.ref d), some (.ref hd), some (.int (mostF f : Int)), o12, some (.ref told), some (.ref la), none, none, none, none, none, none, none, none, none] H := by
  have hu := hu_of hr
  obtain ⟨t3, p3, r3⟩ := cr2c Y hr g hst hM k
  refine ⟨_, (pss_cons (ps_par (i := 15) (j := 16) rfl sc_l_class_right.nd rfl rfl (by decide) rfl rfl (pa_cons (pe_def (c_l_net Y) (hr.mono (by decide)) (pa_cons (pv 1) pa_nil)) (pa_cons (pe_def (c_l_far Y) (hr.mono (by decide)) (pa_cons (pe_ix (K_ixL (K := K) rfl) (pv 1) pe_int (fun _ _ => rfl)) pa_nil)) pa_nil)) rfl)
    (pss_cons (ps_set (i := 5) sc_l_class_right.nd rfl (Or.inl rfl) (pe_lst (pa_cons (pv 14) (pa_cons (pe_callTy (K_tuple (K := K) rfl) (by rfl) Y.n_tuple (by decide +kernel) (pa_cons (pv 14) pa_nil)) (pa_cons (K_step (K := K) rfl (pv 14) (pe_un un_neg pe_int)) (pa_cons (pe_op (K_cat (K := K) rfl) (pv 14) (pe_lst (pa_cons pe_non pa_nil))) (pa_cons (pe_op (K_cat (K := K) rfl) (pv 14) (pe_slice (K_slL (K := K) rfl) (pv 14) (po_some (pe_un un_neg pe_int)) po_none)) (pa_cons (pe_slice (K_slL (K := K) rfl) (pv 14) (po_some pe_int) po_none) (pa_cons (pe_lst (pa_cons (pv 14) pa_nil)) (pa_cons (pv 3) (pa_cons (pe_lst pa_nil) (pa_cons (pe_callTy (K_list (K := K) rfl) (by rfl) Y.n_list (by decide +kernel) (pa_cons (pe_ix (K_ixL (K := K) rfl) (pv 1) pe_int (fun _ _ => rfl)) pa_nil)) (pa_cons pe_non (pa_cons pe_int (pa_cons pe_bl (pa_cons pe_str (pa_cons (pe_tup pa_nil) (pa_cons (pe_frz pe_dnewK) (pa_cons (pe_lst (pa_cons (pv 16) pa_nil)) (pa_cons (pe_op (K_cat (K := K) rfl) (pv 14) (pe_lst (pa_cons (pv 16) pa_nil))) (pa_cons (pe_join pe_str (pv 14)) pa_nil)))))))))))))))))))))
    p3)), ?_⟩
  rintro f lay ok v n u due hd told la d ca da od qs m H o12 hm c
  have few := ok.few g
  have g8 := g.few
  have one : 1 ≤ sizeLine := by decide
  obtain ⟨hft, _⟩ := farT_is ok lay.start
  have sft := ok.sets _ hft
  have low := g.lows sft
  have tl8 := sft.len g
  have hsum := sum_le8 fun x hx => g.words x (sft.sub x hx)
  have T1 : ∀ {H : Hp} {m : Nat}, CR K C H0 p N st f v n u due hd told la d ca da od qs m H → SqL K H la ((farT f).map L2.V.str) := fun c => .inl (.inl c.lat)
  obtain ⟨va, vb, ve, vw, rfl, hv1, hv2, hv3, hv4⟩ := c.lnet
  -- a fresh net, a word of none
  refine ⟨_, rfl, [p], .ref va, N, rfl, purse_live c.pu, c.lnet, g, fun nf H1 k1 hnf => ?_⟩
  have c1 := c.same k1
  have l1 := k1.hid0 (S := [p])
  refine ⟨_, rfl, va, _, 0, _, rfl, rfl, hid_le.seq (l1.seq hv1), at0, [p], [eW N.lamps], purse_live c1.pu, .cons (words_dp (l1.seq hv2)) .nil, ⟨N.lamps, rfl, by omega⟩, fun fv H2 d2 k2 hr2 hfv => ?_⟩
  obtain ⟨x, rfl, hxw⟩ := hr2
  obtain rfl := dp_str hfv
  have lx : Low x := hxw.low
  have c2 := c1.same k2
  have nf2 := hnf.mono (k2.hid0 (S := [p]))
  have hv12 := hid_le.seq ((l1.trans k2.hid0).seq hv1)
  have hv22 := hid_le.seq ((l1.trans k2.hid0).seq hv2)
  refine ⟨_, _, rfl, ?_⟩
  clear k1 l1 hnf c1 c hv1 hv2 hv3 hv4 k2
  have A1 : VAll K (hid [p] H2) [.ref la] := fun z hz => by
    rw [List.mem_singleton.mp hz]
    exact vok_words c2.late low (by omega)
  -- tuple(late)
  refine ⟨_, rfl, _, rfl, la, _, rfl, .inl ⟨T1 c2, fun q1 n1 => ?_⟩⟩
  have k1 : Kp [] H2 (upd H2 q1 (.tup ((farT f).map L2.V.str))) := kp_new n1
  have d1 : Dp K (hid [p] (upd H2 q1 (.tup ((farT f).map L2.V.str)))) (.ref q1) (.tuple ((farT f).map .str)) := wtup_dp (.inl (.inl (hid_at upd_same (not_mem_of (purse_live c2.pu) n1))))
  have A2 := (A1.mono (k1.hid0 (S := [p]))).snoc (vok d1 ((fine_tuple fun x hx => fine_str (low x hx)).mono (by decide)) (slim_tuple.mpr ⟨by rw [List.length_map]; omega, fun z hz => by
    obtain ⟨y, _, rfl⟩ := List.mem_map.mp hz
    rfl⟩))
  have c3 := c2.same k1
  have K3 : Kp [] H2 (upd H2 q1 (.tup ((farT f).map L2.V.str))) := k1
  generalize (upd H2 q1 (.tup ((farT f).map L2.V.str))) = H3 at A2 c3 K3 ⊢
  clear d1 k1 A1
  -- late[::-1]
  refine ⟨_, rfl, 1, rfl, -1, rfl, la, _, rfl, T1 c3, .inr rfl, fun q2 n2 => ?_⟩
  rw [dir_words, if_neg (by decide)]
  have k2 : Kp [] H3 (upd H3 q2 (.lst ((farT f).reverse.map L2.V.str))) := kp_new n2
  have A3 := (A2.mono (k2.hid0 (S := [p]))).snoc (vok_words (words_dp (ws := (farT f).reverse) (.inl (.inl (hid_at upd_same (not_mem_of (purse_live c3.pu) n2))))) (fun x hx => low x (List.mem_reverse.mp hx)) (by rw [List.length_reverse]; omega))
  have c4 := c3.same k2
  have K4 := K3.trans k2
  generalize (upd H3 q2 (.lst ((farT f).reverse.map L2.V.str))) = H4 at A3 c4 K4 ⊢
  clear k2 A2
  -- late + [None]
  refine ⟨_, rfl, one, fun q3 n3 => ?_⟩
  have k3 : Kp [] H4 (upd H4 q3 (.lst [.non])) := kp_new n3
  have h3 : (upd H4 q3 (.lst [.non])) q3 = some (.lst [.non]) := upd_same
  have A3' := A3.mono (k3.hid0 (S := [p]))
  have c5 := c4.same k3
  have K5 := K4.trans k3
  have d3 : Dp K (hid [p] (upd H4 q3 (.lst [.non]))) (.ref q3) (.list [.none]) := .lst (.inl (.inl (hid_at h3 (not_mem_of (purse_live c4.pu) n3)))) (.cons .non .nil)
  generalize (upd H4 q3 (.lst [.non])) = H5 at A3' c5 K5 d3 ⊢
  refine cat_ans (purse_live c5.pu) c5.late d3 (by rw [List.length_map]; show _ + 1 ≤ _; omega) fun q4 xs4 n4 _ _ d4 => ?_
  have k4 : Kp [] H5 (upd H5 q4 (.lst xs4)) := kp_new n4
  have A4 := (A3'.mono (k4.hid0 (S := [p]))).snoc (vok d4 ((fine_lst (n := 0) fun z hz => by
    rcases List.mem_append.mp hz with hz | hz
    · obtain ⟨y, hy, rfl⟩ := List.mem_map.mp hz
      exact fine_str (low y hy)
    · rw [List.mem_singleton.mp hz]
      exact fine_non).mono (by decide)) (slim_list.mpr ⟨by rw [List.length_append, List.length_map]; show _ + 1 ≤ _; omega, fun z hz => by
    rcases List.mem_append.mp hz with hz | hz
    · obtain ⟨y, hy, rfl⟩ := List.mem_map.mp hz
      rfl
    · rw [List.mem_singleton.mp hz]
      rfl⟩))
  have c6 := c5.same k4
  have K6 := K5.trans k4
  generalize (upd H5 q4 (.lst xs4)) = H6 at A4 c6 K6 ⊢
  clear d3 d4 k3 k4 h3 A3 A3'
  -- late + late[-1:]
  refine ⟨_, rfl, _, rfl, 1, rfl, -1, rfl, la, _, rfl, T1 c6, fun q5 n5 => ?_⟩
  obtain ⟨m5, e5, s5, z5⟩ := cut_words (farT f) (some (-1)) none
  rw [show cutV ((farT f).map L2.V.str) (some (-1)) none = m5.map L2.V.str from e5]
  have k5 : Kp [] H6 (upd H6 q5 (.lst (m5.map L2.V.str))) := kp_new n5
  have d5 : Dp K (hid [p] (upd H6 q5 (.lst (m5.map L2.V.str)))) (.ref q5) (eW m5) := words_dp (.inl (.inl (hid_at upd_same (not_mem_of (purse_live c6.pu) n5))))
  have A4' := A4.mono (k5.hid0 (S := [p]))
  have c7 := c6.same k5
  have K7 := K6.trans k5
  generalize (upd H6 q5 (.lst (m5.map L2.V.str))) = H7 at A4' c7 K7 d5 ⊢
  refine cat_ans (purse_live c7.pu) c7.late d5 (by rw [List.length_map, List.length_map]; omega) fun q6 xs6 n6 _ _ d6 => ?_
  rw [← List.map_append] at d6
  have k6 : Kp [] H7 (upd H7 q6 (.lst xs6)) := kp_new n6
  have A5 := (A4'.mono (k6.hid0 (S := [p]))).snoc (vok_words d6 (fun y hy => by
    rcases List.mem_append.mp hy with hy | hy
    · exact low y hy
    · exact low y (s5 y hy)) (by rw [List.length_append]; omega))
  have c8 := c7.same k6
  have K8 := K7.trans k6
  generalize (upd H7 q6 (.lst xs6)) = H8 at A5 c8 K8 ⊢
  clear d5 d6 k5 k6 A4 A4'
  -- late[1:]
  refine ⟨_, rfl, 1, rfl, la, _, rfl, T1 c8, fun q7 n7 => ?_⟩
  obtain ⟨m7, e7, s7, z7⟩ := cut_words (farT f) (some 1) none
  rw [show cutV ((farT f).map L2.V.str) (some 1) none = m7.map L2.V.str from e7]
  have k7 : Kp [] H8 (upd H8 q7 (.lst (m7.map L2.V.str))) := kp_new n7
  have A6 := (A5.mono (k7.hid0 (S := [p]))).snoc (vok_words (words_dp (ws := m7) (.inl (.inl (hid_at upd_same (not_mem_of (purse_live c8.pu) n7))))) (fun y hy => low y (s7 y hy)) (by omega))
  have c9 := c8.same k7
  have K9 := K8.trans k7
  generalize (upd H8 q7 (.lst (m7.map L2.V.str))) = H9 at A6 c9 K9 ⊢
  clear k7 A5
  -- [late]
  refine ⟨_, rfl, one, fun q8 n8 => ?_⟩
  have k8 : Kp [] H9 (upd H9 q8 (.lst [.ref la])) := kp_new n8
  have c10 := c9.same k8
  have A7 := (A6.mono (k8.hid0 (S := [p]))).snoc (vok (d := .list [eW (farT f)]) (.lst (.inl (.inl (hid_at upd_same (not_mem_of (purse_live c9.pu) n8)))) (.cons c10.late .nil)) ((fine_lst (n := 1) fun z hz => by
    rw [List.mem_singleton.mp hz]
    exact fine_words low).mono (by decide)) (slim_list.mpr ⟨by show 1 ≤ 1000; decide, fun z hz => by
    rw [List.mem_singleton.mp hz]
    exact slim_words (by omega)⟩))
  have K10 := K9.trans k8
  generalize (upd H9 q8 (.lst [.ref la])) = H10 at A7 c10 K10 ⊢
  clear k8 A6
  -- the setting, []
  have A8 := A7.snoc (vok_words (Dp.mono CR.sub c10.set) (g.lows hst) (by have := hst.len g; omega))
  refine ⟨_, rfl, Nat.zero_le _, fun q9 n9 => ?_⟩
  have k9 : Kp [] H10 (upd H10 q9 (.lst [])) := kp_new n9
  have A9 := (A8.mono (k9.hid0 (S := [p]))).snoc (vok_words (ws := []) (words_dp (ws := []) (.inl (.inl (hid_at upd_same (not_mem_of (purse_live c10.pu) n9))))) (by simp) (Nat.zero_le _))
  have c11 := c10.same k9
  have K11 := K10.trans k9
  generalize (upd H10 q9 (.lst [])) = H11 at A9 c11 K11 ⊢
  clear k9 A7 A8
  -- list(net[0])
  refine ⟨_, rfl, va, _, 0, _, rfl, rfl, K11.same.seq hv12, at0, vb, _, rfl, .inl (K11.same.seq hv22), fun q10 n10 => ?_⟩
  have k10 : Kp [] H11 (upd H11 q10 (.lst (N.lamps.map L2.V.str))) := kp_new n10
  have A10 := (A9.mono (k10.hid0 (S := [p]))).snoc (vok_words (words_dp (ws := N.lamps) (.inl (.inl (hid_at upd_same (not_mem_of (purse_live c11.pu) n10))))) (fun y hy => (g.words y hy).low) (by omega))
  have c12 := c11.same k10
  have K12 := K11.trans k10
  generalize (upd H11 q10 (.lst (N.lamps.map L2.V.str))) = H12 at A10 c12 K12 ⊢
  clear k10 A9
  -- None, 0, True, ""
  have A14 := (((A10.snoc (vok .non (fine_non.mono (by decide)) rfl)).snoc (vok (.int 0) (fine_int.mono (by decide)) rfl)).snoc (vok (.bl true) (fine_bl.mono (by decide)) rfl)).snoc (vok (.str "") ((fine_str (x := "") (fun c (hc : c ∈ ([] : List Nat)) => absurd hc (by simp))).mono (by decide)) rfl)
  clear A10
  -- ()
  refine ⟨Nat.zero_le _, fun q11 n11 => ?_⟩
  have k11 : Kp [] H12 (upd H12 q11 (.tup [])) := kp_new n11
  have A15 := (A14.mono (k11.hid0 (S := [p]))).snoc (vok (d := .tuple []) (.tup (.inl (.inl (hid_at upd_same (not_mem_of (purse_live c12.pu) n11)))) .nil) ((fine_tup (n := 0) (by simp)).mono (by decide)) (slim_tuple.mpr ⟨Nat.zero_le _, by simp⟩))
  have c13 := c12.same k11
  have K13 := K12.trans k11
  generalize (upd H12 q11 (.tup [])) = H13 at A15 c13 K13 ⊢
  clear k11 A14
  -- {}
  refine fun q12 n12 => ⟨q12, _, rfl, upd_same, True.intro, fun o12b => ?_⟩
  have k12 : Kp [] H13 (upd (upd H13 q12 (.dK [])) q12 (.frz o12b (.dK []))) := (kp_new n12).put n12
  have A16 := (A15.mono (k12.hid0 (S := [p]))).snoc (vok_emp (v := .ref q12) ⟨q12, o12b, rfl, hid_at upd_same (not_mem_of (purse_live c13.pu) n12)⟩)
  have c14 := c13.same k12
  have K14 := K13.trans k12
  generalize (upd (upd H13 q12 (.dK [])) q12 (.frz o12b (.dK []))) = H14 at A16 c14 K14 ⊢
  clear k12 A15
  -- [far]
  refine ⟨_, rfl, one, fun q13 n13 => ?_⟩
  have k13 : Kp [] H14 (upd H14 q13 (.lst [.str x])) := kp_new n13
  have A17 := (A16.mono (k13.hid0 (S := [p]))).snoc (vok_words (words_dp (ws := [x]) (.inl (.inl (hid_at upd_same (not_mem_of (purse_live c14.pu) n13))))) (fun y hy => by rw [List.mem_singleton.mp hy]; exact lx) (by show 1 ≤ 1000; decide))
  have c15 := c14.same k13
  have K15 := K14.trans k13
  generalize (upd H14 q13 (.lst [.str x])) = H15 at A17 c15 K15 ⊢
  clear k13 A16
  -- late + [far]
  refine ⟨_, rfl, _, rfl, one, fun q14 n14 => ?_⟩
  have k14 : Kp [] H15 (upd H15 q14 (.lst [.str x])) := kp_new n14
  have d14 : Dp K (hid [p] (upd H15 q14 (.lst [.str x]))) (.ref q14) (eW [x]) := words_dp (ws := [x]) (.inl (.inl (hid_at upd_same (not_mem_of (purse_live c15.pu) n14))))
  have A17' := A17.mono (k14.hid0 (S := [p]))
  have c16 := c15.same k14
  have K16 := K15.trans k14
  generalize (upd H15 q14 (.lst [.str x])) = H16 at A17' c16 K16 d14 ⊢
  refine cat_ans (purse_live c16.pu) c16.late d14 (by rw [List.length_map]; show _ + 1 ≤ _; omega) fun q15 xs15 n15 _ _ d15 => ?_
  rw [← List.map_append] at d15
  have k15 : Kp [] H16 (upd H16 q15 (.lst xs15)) := kp_new n15
  have A18 := (A17'.mono (k15.hid0 (S := [p]))).snoc (vok_words d15 (fun y hy => by
    rcases List.mem_append.mp hy with hy | hy
    · exact low y hy
    · rw [List.mem_singleton.mp hy]
      exact lx) (by rw [List.length_append]; show _ + 1 ≤ _; omega))
  have c17 := c16.same k15
  have K17 := K16.trans k15
  generalize (upd H16 q15 (.lst xs15)) = H17 at A18 c17 K17 ⊢
  clear d14 d15 k14 k15 A17 A17'
  -- "".join(late)
  refine ⟨⟨_, rfl⟩, _, rfl, _, la, farT f, rfl, rfl, .inl (T1 c17), ?_, ?_⟩
  · show ((farT f).map (·.length)).sum + (farT f).length * 0 ≤ 16777216
    omega
  have A19 := A18.snoc (vok (.str (Txt.join "" (farT f))) ((fine_str (join_low low)).mono (by decide)) rfl)
  refine ⟨by show 19 ≤ sizeLine; decide, fun vl nvl => ?_⟩
  simp only [List.cons_append, List.nil_append] at A19
  have c18 := c17.same (kp_new (T := []) (o := .lst [.ref la, .ref q1, .ref q2, .ref q4, .ref q6, .ref q7, .ref q8, u, .ref q9, .ref q10, .non, .int 0, .bl true, .str "", .ref q11, .ref q12, .ref q13, .ref q15, .str (Txt.join "" (farT f))]) nvl)
  have K18 := K17.trans (kp_new (T := []) (o := .lst [.ref la, .ref q1, .ref q2, .ref q4, .ref q6, .ref q7, .ref q8, u, .ref q9, .ref q10, .non, .int 0, .bl true, .str "", .ref q11, .ref q12, .ref q13, .ref q15, .str (Txt.join "" (farT f))]) nvl)
  exact r3 f lay ok (.ref va) n u (.ref nf) due hd told la d ca da vl od qs m _ _ o12 (some (.str x)) hm c18 (nf2.mono (K18.hid0 (S := [p]))) upd_same (fun e => (c17.pu.ne nvl) e.symm) (by show 19 ≤ 100; decide) (A19.mono (kp_new (T := []) nvl).hid0)
end
end K41
namespace K41
open PySem PySem.Spec PyProof.Rows L2 PySem.W
theorem hid_fresh {p : Addr} {T : List Addr} {H : Hp} (h : ∀ a ∈ T, H a = none) : hid (p :: T) H = hid [p] H := by
  funext b
  unfold hid
  by_cases e : b = p
  · subst e
    rw [if_pos (List.mem_cons_self ..), if_pos (List.mem_cons_self ..)]
  · by_cases hb : b ∈ T
    · rw [if_pos (List.mem_cons_of_mem _ hb), if_neg (by simpa using e)]
      exact (h b hb).symm
    · rw [if_neg (fun z => (List.mem_cons.mp z).elim e hb), if_neg (by simpa using e)]
theorem refs_of {H H' : Hp} : ∀ {ys : List V}, (∀ y ∈ ys, ∃ q xs, y = .ref q ∧ H q = none ∧ H' q = some (.lst xs) ∧ xs.length ≤ 1000) → ∃ qs : List Addr, ys = qs.map V.ref ∧ ∀ q ∈ qs, H q = none ∧ ∃ xs, H' q = some (.lst xs) ∧ xs.length ≤ 1000
  | [], _ => ⟨[], rfl, by simp⟩
  | y :: ys, h => by
    obtain ⟨qs, rfl, hq⟩ := refs_of (ys := ys) fun z hz => h z (List.mem_cons_of_mem _ hz)
    obtain ⟨q, xs, rfl, h1, h2, h3⟩ := h y (List.mem_cons_self ..)
    refine ⟨q :: qs, rfl, fun z hz => ?_⟩
    rcases List.mem_cons.mp hz with rfl | hz
    · exact ⟨h1, xs, h2, h3⟩
    · exact hq z hz
section
variable {P : Program} {w : World} {K : PySem.W.Frag} {mg : Str → Option Value} {base : Heap} {C : Addr}
def spCR (K : PySem.W.Frag) (C : Addr) : Sp := fun vs H Q _ => ∃ (p : Addr) (m : Nat) (v n u : L2.V) (N : Net) (st : List Str), vs = [.ref p, v, n, u] ∧ Purse H p m ∧ m + 400 ≤ 1000000000 ∧ LNet K (hid [p] H) v N ∧ NetV K C (hid [p] H) n N ∧ Good N ∧ Dp K (hid [p] H) u (eW st) ∧ IsSet N st ∧
  ∀ H', Kp [p] H H' → Purse H' p (m + 400) → Q (.bl true) H'
theorem c_l_class_right (Y : Env K mg C) : Def P w K mg base (Str.ofString "_law_class_right") 9 ["_law_purse_here", "_law_net_here", "_law_made", "_law_setting_here"] (spCR K C) := by
  refine def_mk Y.t_l_class_right sc_l_class_right bb_l_class_right (fun vs H Q E h => ?_) (fun f cdv A outer s H vs Q E hr h => ?_)
  · obtain ⟨p, m, v, n, u, N, st, rfl, _⟩ := h
    rfl
  · obtain ⟨p, m, v, n, u, N, st, rfl, hP, hm, hN, hn, g, hu0, hst, k⟩ := h
    have hu := hu_of hr
    have two : 2 ≤ sizeLine := by decide
    have hS := purse_live hP
    have pm : p ∈ [p] := List.mem_singleton.mpr rfl
    obtain ⟨t5, p5, r5⟩ := cr2b Y hr g hst hm k
    refine ⟨_, (pss_cons (ps_par (i := 9) (j := 10) rfl sc_l_class_right.nd rfl rfl (by decide) rfl rfl (pa_cons (pe_frz (pe_def (c_l_reached Y) (hr.mono (by decide)) (pa_cons (pv 1) (pa_cons (pv 3) pa_nil)))) (pa_cons (pe_callTy (K_list (K := K) rfl) (by rfl) Y.n_list (by decide +kernel) (pa_cons (pv 3) pa_nil)) pa_nil)) rfl)
    (pss_cons (ps_asg (pe_tup (pa_cons (pe_maxVals rfl (pv 9) (by rfl) Y.n_max) (pa_cons (pe_listVals rfl (pv 9) (by rfl) Y.n_list) pa_nil))) (K_pgtup (K := K) (n := 2) rfl rfl (pgs_cons (pg_name (i := 11) sc_l_class_right.nd rfl (Or.inl rfl)) (pgs_cons (pg_name (i := 12) sc_l_class_right.nd rfl (Or.inr rfl)) pgs_nil))))
    (pss_cons (ps_set (i := 4) sc_l_class_right.nd rfl (Or.inl rfl) (pe_lst (pa_cons (pe_callB (K_sort (K := K) rfl (hu100 hr)) (by rfl) Y.n_sorted (by decide +kernel) (pa_cons (pe_lc (own := [("_law_here", 23)]) rfl sc_l_class_right.nd (pi_keys (pv 9)) (blkOk_by (own := [("_law_here", 23)]) (N := ["_law_purse_here", "_law_net_here", "_law_made", "_law_setting_here", "_law_due", "_law_values", "_law_value", "_law_other", "_law_part_here", "_law_layers", "_law_handed", "_law_most", "_law_numbers", "_law_told", "_law_late", "_law_fresh", "_law_far_here", "_law_kept", "_law_some", "_law_noted", "_law_right", "_law_number", "_law_turn", "_law_here"]) (sc := defScope s_l_class_right) (by decide +kernel)) (fun _ _ _ _ _ => (pg_name (i := 23) sc_l_class_right.nd rfl (Or.inl rfl))) (fun _ _ _ _ _ => pts_nil) (fun _ _ _ _ _ => (pe_callTy (K_list (K := K) rfl) (by rfl) Y.n_list (by decide +kernel) (pa_cons (pv 23) pa_nil)))) pa_nil)) (pa_cons (pe_lc (own := [("_law_number", 21)]) rfl sc_l_class_right.nd (pi_range1 rfl Y.n_range (pa_cons (pe_op op_add (pv 11) pe_int) pa_nil)) (blkOk_by (own := [("_law_number", 21)]) (N := ["_law_purse_here", "_law_net_here", "_law_made", "_law_setting_here", "_law_due", "_law_values", "_law_value", "_law_other", "_law_part_here", "_law_layers", "_law_handed", "_law_most", "_law_numbers", "_law_told", "_law_late", "_law_fresh", "_law_far_here", "_law_kept", "_law_some", "_law_noted", "_law_right", "_law_number", "_law_turn", "_law_here"]) (sc := defScope s_l_class_right) (by decide +kernel)) (fun _ _ _ _ _ => (pg_name (i := 21) sc_l_class_right.nd rfl (Or.inl rfl))) (fun _ _ _ _ _ => pts_nil) (fun _ _ _ _ _ => (K_bm (K := K) rfl PySem.F.plainAttrs_list PySem.F.slot_list_count PySem.F.type_list_count (K_count (K := K) rfl) (pv 12) (pa_cons (pv 21) pa_nil)))) pa_nil))))
    (pss_cons (ps_asg (pe_tup (pa_cons (pe_lst (pa_cons (pe_def (c_class_of Y) (hr.mono (by decide)) (pa_cons (pv 2) (pa_cons (pv 10) pa_nil))) (pa_cons (pe_def (c_by_deeds Y) (hr.mono (by decide)) (pa_cons (pv 2) (pa_cons (pv 10) pa_nil))) pa_nil))) (pa_cons (pe_def (c3_farthest Y) (hr.mono (by decide)) (pa_cons (pv 2) (pa_cons (pv 10) pa_nil))) pa_nil))) (K_pgtup (K := K) (n := 2) rfl rfl (pgs_cons (pg_name (i := 13) sc_l_class_right.nd rfl (Or.inl rfl)) (pgs_cons (pg_name (i := 14) sc_l_class_right.nd rfl (Or.inr rfl)) pgs_nil))))
    (pss_cons (ps_if (PW.pt (pw_or (pt_not (pt_val (pe_def (c_l_exact Y 8) (hr.mono (by decide)) (pa_cons (pe_lst (pa_cons (pv 13) (pa_cons (pv 10) pa_nil))) (pa_cons (pe_lst (pa_cons (pv 4) (pa_cons (pv 3) pa_nil))) pa_nil))))) (pw_or1 (pt_not (pt_val (pe_callB (K_any (K := K) rfl rfl) (by rfl) Y.n_any (by decide +kernel) (pa_cons (pe_lc (own := [("_law_here", 23)]) rfl sc_l_class_right.nd (K_pil (K := K) rfl (pe_def (c_l_places Y) (hr.mono (by decide)) (pa_cons (pv 9) (pa_cons (pv 11) pa_nil)))) (blkOk_by (own := [("_law_here", 23)]) (N := ["_law_purse_here", "_law_net_here", "_law_made", "_law_setting_here", "_law_due", "_law_values", "_law_value", "_law_other", "_law_part_here", "_law_layers", "_law_handed", "_law_most", "_law_numbers", "_law_told", "_law_late", "_law_fresh", "_law_far_here", "_law_kept", "_law_some", "_law_noted", "_law_right", "_law_number", "_law_turn", "_law_here"]) (sc := defScope s_l_class_right) (by decide +kernel)) (fun _ _ _ _ _ => (pg_name (i := 23) sc_l_class_right.nd rfl (Or.inl rfl))) (fun _ _ _ _ _ => pts_nil) (fun _ _ _ _ _ => (pe_def (c_l_exact Y 8) (hr.mono (by decide)) (pa_cons (pv 14) (pa_cons (pv 23) pa_nil))))) pa_nil))))))) (pss_one (ps_ret pe_bl)) pss_nil)
    p5))))), ?_⟩
    obtain ⟨ua, rfl, hua⟩ := dp_words hu0
    -- layers, handed
    refine ⟨_, rfl, _, rfl, [p], v, .ref ua, N, st, rfl, hS, hN, g, hu0, hst, fun d H1 f k1 nd hd lay ok => ?_⟩
    refine ⟨d, _, rfl, hd, True.intro, fun od => ?_⟩
    have kA : Kp [] H (upd H1 d (.frz od (.dT (eF f)))) := k1.put nd
    have dA : (upd H1 d (.frz od (.dT (eF f)))) d = some (.frz od (.dT (eF f))) := upd_same
    generalize (upd H1 d (.frz od (.dT (eF f)))) = HA at kA dA ⊢
    refine ⟨_, rfl, ua, _, rfl, .inl (kA.same.seq (hid_le.seq hua)), fun hd nhd => ?_⟩
    have kB : Kp [] HA (upd HA hd (.lst (st.map L2.V.str))) := kp_new nhd
    have hB : (upd HA hd (.lst (st.map L2.V.str))) hd = some (.lst (st.map L2.V.str)) := upd_same
    have hdS : hd ∉ [p] := not_mem_of (kA.live hS) nhd
    generalize (upd HA hd (.lst (st.map L2.V.str))) = HB at kB hB ⊢
    refine ⟨_, _, rfl, ?_⟩
    have k0B := kA.trans kB
    have dB := kB.same _ _ dA
    have hne := keys_ne lay.start
    have few := ok.few g
    have hm1 := mostF_le g ok
    -- most, numbers
    refine ⟨_, rfl, d, eF f, _, rfl, .inr ⟨od, dB⟩, vals_eF f, fun e => hne (List.map_eq_nil_iff.mp e), fun mm hmm hle => ?_⟩
    have em := most_cast hne hmm hle
    subst em
    have em : (mostL (numsF f) : Int) = (mostF f : Int) := rfl
    rw [em]
    refine ⟨_, rfl, d, _, rfl, .inr ⟨od, dB⟩, fun ol nol => ⟨two, fun tp ntp => ?_⟩⟩
    rw [vals_eF] at ntp ⊢
    have kC : Kp [] HB (upd HB ol (.lst (((numsF f).map fun n : Nat => (n : Int)).map L2.V.int))) := kp_new nol
    have olC : (upd HB ol (.lst (((numsF f).map fun n : Nat => (n : Int)).map L2.V.int))) ol = some (.lst (((numsF f).map fun n : Nat => (n : Int)).map L2.V.int)) := upd_same
    generalize (upd HB ol (.lst (((numsF f).map fun n : Nat => (n : Int)).map L2.V.int))) = HC at kC olC ntp ⊢
    refine ⟨tp, _, rfl, .inl (.inl upd_same), rfl, _, _, rfl, _, _, rfl, rfl, ?_⟩
    have kD : Kp [] HC (upd HC tp (.tup [.int (mostF f : Int), .ref ol])) := kp_new ntp
    generalize (upd HC tp (.tup [.int (mostF f : Int), .ref ol])) = HD at kD ⊢
    have kBD := kC.trans kD
    have k0D := k0B.trans kBD
    have dD := kBD.same _ _ dB
    have olD := kD.same _ _ olC
    -- due: the class
    refine ⟨_, rfl, d, od, rfl, .inr ⟨eF f, dD, fun D1 hD1 => ?_⟩⟩
    refine lcS (K := K) (items := keysF f) (S := [p]) walkF eW hD1 (k0D.live hS) (by unfold keysF; rw [List.length_map]; omega) (fun H' kp => kp.same _ _ dD) ?_ ?_
    · rintro i z x1 Ha Hb Yes hi kp hL ⟨rfl, y⟩ yes
      obtain ⟨q, rfl, hq⟩ := y z hi
      refine ⟨rfl, _, rfl, q, _, rfl, .inr (.inl (.inl hq)), fun pp npp => ?_⟩
      exact yes _ _ (kp_new npp) (words_dp (.inl (.inl (hid_at upd_same (not_mem_of hL npp)))))
    intro HE ysE kE hLE hlE hleE daE dpE
    refine sort_ans (.inl (.inl hlE)) daE hid_le (al_words _) (ok_words _) dep_words fun s1 ysS ns1 daS => ?_
    have k0E := k0D.trans kE
    have kF : Kp [] HE (upd HE s1 (.lst ysS)) := kp_new ns1
    have hF : (upd HE s1 (.lst ysS)) s1 = some (.lst ysS) := upd_same
    have s1S : s1 ∉ [p] := not_mem_of (k0E.live hS) ns1
    have daF : DpAll K (hid [p] (upd HE s1 (.lst ysS))) ysS ((srt eW (keysF f)).map eW) := DpAll.mono (hid_tail.trans kF.hid0) daS
    generalize (upd HE s1 (.lst ysS)) = HF at kF hF daF ⊢
    have k0F := k0E.trans kF
    have kDF := kE.trans kF
    have olF := kDF.same _ _ olD
    -- due: by deeds
    refine ⟨_, rfl, _, _, rfl, rfl, (mostF f : Int) + 1, rfl, by omega, by omega, fun DD hDD => ?_⟩
    rw [show ((mostF f : Int) + 1).toNat = mostF f + 1 by omega]
    refine lcS (K := K) (S := [p]) (walkR (lo := 0) (n := mostF f + 1)) (fun n => .int ((numsF f).count n : Int)) hDD (k0F.live hS) (by rw [List.length_range]; omega) (fun H1 kp => trivial) ?_ ?_
    · rintro i x x1 Ha Hb Yes hi kp hL ⟨rfl, rfl⟩ yes
      obtain ⟨rfl, hi⟩ := range_at hi
      have hp5 : SqL K Hb ol _ := .inl (.inl (kp.same _ _ olF))
      refine ⟨rfl, _, rfl, .inl ⟨rfl, _, hp5⟩, _, rfl, ol, _, _, rfl, rfl, hp5, ?_⟩
      rw [show (0 : Int) + (x : Int) = (x : Int) by omega, count_cast]
      exact yes _ _ .refl (.int _)
    intro HG ysG kG hLG hlG hleG daG dpG
    rw [deeds_map] at daG dpG
    refine ⟨two, fun due ndue => ?_⟩
    have k0G := k0F.trans kG
    have kH : Kp [] HG (upd HG due (.lst [.ref s1, .ref DD])) := kp_new ndue
    have hH : (upd HG due (.lst [.ref s1, .ref DD])) due = some (.lst [.ref s1, .ref DD]) := upd_same
    have dueS : due ∉ [p] := not_mem_of (k0G.live hS) ndue
    have ddue : Dp K (hid [p] (upd HG due (.lst [.ref s1, .ref DD]))) (.ref due) (.list [.list ((srt eW (keysF f)).map eW), .list ((deedsF f).map .int)]) :=
      .lst (.inl (.inl (hid_at hH dueS))) (.cons (.lst (.inl (.inl (hid_at ((kG.trans kH).same _ _ hF) s1S))) (DpAll.mono (kG.trans kH).hid0 daF)) (.cons (Dp.mono kH.hid0 dpG) .nil))
    generalize (upd HG due (.lst [.ref s1, .ref DD])) = HH at kH hH ddue ⊢
    have k0H := k0G.trans kH
    have kBH := (((kBD.trans kDF).trans kG).trans kH)
    have LH := k0H.live hS
    have hnH := hn.mono k0H.hid0
    have huH := Dp.mono k0H.hid0 hu0
    have hdH : Dp K (hid [p] HH) (.ref hd) (eW st) := words_dp (.inl (.inl (hid_at (kBH.same _ _ hB) hdS)))
    -- told
    refine ⟨_, rfl, _, rfl, [p], n, .ref hd, N, st, rfl, LH, hnH, g, hdH, hst, fun ca HI ysc g1 lay1 ok1 kI nca hca hdac hnew => ?_⟩
    have eg1 : g1 = f := lay1.det lay
    rw [eg1] at hdac
    obtain ⟨qs, rfl, hqs⟩ := refs_of hnew
    refine ⟨_, rfl, _, rfl, [p], n, .ref hd, N, st, rfl, kI.live LH, hnH.mono kI.hid0, g, Dp.mono kI.hid0 hdH, hst, fun da HJ g2 lay2 ok2 kJ nda hda => ?_⟩
    have eg2 : g2 = f := lay2.det lay
    rw [eg2] at hda
    have kIJ := kI.trans kJ
    refine ⟨two, fun told ntold => ?_⟩
    have kL : Kp [] HJ (upd HJ told (.lst [.ref ca, .ref da])) := kp_new ntold
    have hL' : (upd HJ told (.lst [.ref ca, .ref da])) told = some (.lst [.ref ca, .ref da]) := upd_same
    generalize (upd HJ told (.lst [.ref ca, .ref da])) = HL at kL hL' ⊢
    have kHL := kIJ.trans kL
    refine ⟨_, rfl, _, rfl, [p], n, .ref hd, N, st, rfl, kHL.live LH, hnH.mono kHL.hid0, g, Dp.mono kHL.hid0 hdH, hst, fun la HM g3 lay3 ok3 kM nla hla => ?_⟩
    have eg3 : g3 = f := lay3.det lay
    rw [eg3] at hla
    have kHM := kHL.trans kM
    refine ⟨two, fun tp2 ntp2 => ?_⟩
    have kN : Kp [] HM (upd HM tp2 (.tup [.ref told, .ref la])) := kp_new ntp2
    have htp2 : (upd HM tp2 (.tup [.ref told, .ref la])) tp2 = some (.tup [.ref told, .ref la]) := upd_same
    generalize (upd HM tp2 (.tup [.ref told, .ref la])) = HN at kN htp2 ⊢
    have kHN := kHM.trans kN
    have k0N := k0H.trans kHN
    have hcaN := ((kJ.trans kL).trans (kM.trans kN)).same _ _ hca
    have hdaN := (kL.trans (kM.trans kN)).same _ _ hda
    have hlaN := kN.same _ _ hla
    have toldN := (kM.trans kN).same _ _ hL'
    have freH : ∀ a ∈ trs la ca da qs, HH a = none := fun a ha => by
      simp only [trs, List.mem_cons] at ha
      rcases ha with rfl | rfl | rfl | ha
      · exact kHL.free nla
      · exact nca
      · exact kI.free nda
      · exact (hqs a ha).1
    have lisN : ∀ a ∈ trs la ca da qs, ∃ xs, HN a = some (.lst xs) ∧ xs.length ≤ 1000 := fun a ha => by
      simp only [trs, List.mem_cons] at ha
      rcases ha with rfl | rfl | rfl | ha
      · obtain ⟨hft, _⟩ := farT_is ok lay.start
        have := (ok.sets _ hft).len g
        exact ⟨_, hlaN, by rw [List.length_map]; omega⟩
      · refine ⟨_, hcaN, ?_⟩
        rw [DpAll.length hdac, List.length_map, srt_len, keysF, List.length_map]
        omega
      · exact ⟨_, hdaN, by rw [List.length_map, deeds_len]; omega⟩
      · obtain ⟨_, xs, h1, h2⟩ := hqs a ha
        exact ⟨xs, ((kJ.trans kL).trans (kM.trans kN)).same _ _ h1, h2⟩
    have eH := hid_fresh (p := p) freH
    have sHN : Same (hid [p] HH) (hid (p :: trs la ca da qs) HN) := by
      rw [← eH]
      exact kHN.hid0
    have qsl : qs.length ≤ 1000 := by
      have q := DpAll.length hdac
      rw [List.length_map, List.length_map, srt_len, keysF, List.length_map] at q
      omega
    have PN : Purse HN p m := hP.kp k0N (by simp)
    have toldS : told ∉ p :: trs la ca da qs := fun z => by
      have nn : ∀ {b : Addr} {o : HO}, HJ b = some o → told ≠ b := fun h e => by
        rw [e, h] at ntold
        cases ntold
      rcases List.mem_cons.mp z with e | z
      · obtain ⟨x1, x2, x3, hp, _⟩ := hP.kp (k0H.trans kIJ) (by simp)
        exact nn hp e
      · simp only [trs, List.mem_cons] at z
        rcases z with e | e | e | z
        · rw [e, nla] at hL'
          cases hL'
        · exact nn (kJ.same _ _ hca) e
        · exact nn hda e
        · obtain ⟨_, xs, h1, _⟩ := hqs told z
          exact nn (kJ.same _ _ h1) rfl
    have c : CR K C H p N st f v n (.ref ua) due hd told la d ca da od qs m HN := ⟨hS p pm, k0N.nil, PN, hN.mono k0N.hid0, hnH.mono sHN, Dp.mono sHN huH, Dp.mono sHN hdH, Dp.mono sHN ddue, (kBH.trans kHN).same _ _ dB, hid_at toldN toldS, hcaN, hlaN, fun a ha => k0H.free (freH a ha), lisN, qsl⟩
    refine ⟨tp2, _, rfl, .inl (.inl htp2), rfl, _, _, rfl, _, _, rfl, rfl, ?_⟩
    -- told right
    refine ⟨_, rfl, _, rfl, two, fun l1 nl1 => ?_⟩
    have kO : Kp [] HN (upd HN l1 (.lst [.ref told, .ref hd])) := kp_new nl1
    have hl1 : (upd HN l1 (.lst [.ref told, .ref hd])) l1 = some (.lst [.ref told, .ref hd]) := upd_same
    have l1S : l1 ∉ [p] := not_mem_of (purse_live PN) nl1
    have cO := c.same kO
    generalize (upd HN l1 (.lst [.ref told, .ref hd])) = HO at kO hl1 cO ⊢
    refine ⟨_, rfl, _, rfl, two, fun l2 nl2 => ?_⟩
    have kP : Kp [] HO (upd HO l2 (.lst [.ref due, .ref ua])) := kp_new nl2
    have hl2 : (upd HO l2 (.lst [.ref due, .ref ua])) l2 = some (.lst [.ref due, .ref ua]) := upd_same
    have l2S : l2 ∉ [p] := not_mem_of (purse_live cO.pu) nl2
    have cP := cO.same kP
    generalize (upd HO l2 (.lst [.ref due, .ref ua])) = HP at kP hl2 cP ⊢
    have kNP := kO.trans kP
    have kIP := ((kJ.trans kL).trans (kM.trans kN)).trans kNP
    have hints : DpAll K (hid [p] HP) ((deedsF f).map L2.V.int) ((deedsF f).map .int) := ints_da
    have dtold : Dp K (hid [p] HP) (.ref told) (.list [.list ((srt eW (keysF f)).map eW), .list ((deedsF f).map .int)]) :=
      .lst (.inl (.inl (hid_at (kNP.same _ _ toldN) (fun z => toldS (by rw [List.mem_singleton.mp z]; exact List.mem_cons_self ..))))) (.cons (.lst (.inl (.inl (hid_at (kNP.same _ _ hcaN) (c.ni (by simp [trs]))))) (DpAll.mono kIP.hid0 hdac)) (.cons (.lst (.inl (.inl (hid_at (kNP.same _ _ hdaN) (c.ni (by simp [trs]))))) hints) .nil))
    have fin : Fine 60 (.list [.list [.list ((srt eW (keysF f)).map eW), .list ((deedsF f).map .int)], eW st]) ∧ slim (.list [.list [.list ((srt eW (keysF f)).map eW), .list ((deedsF f).map .int)], eW st]) = true ∧ (PyData.list [.list [.list ((srt eW (keysF f)).map eW), .list ((deedsF f).map .int)], eW st]).depth < 8 := fine_few (n := 3) (fun x hx => by
      simp only [List.mem_cons, List.not_mem_nil, or_false] at hx
      rcases hx with rfl | rfl
      · have kf := keys_fine g ok
        have df := deeds_fine g ok
        refine ⟨fine_lst fun y hy => ?_, slim_list.mpr ⟨by show 2 ≤ 1000; decide, fun y hy => ?_⟩⟩
        · simp only [List.mem_cons, List.not_mem_nil, or_false] at hy
          rcases hy with rfl | rfl
          · exact kf.1
          · exact df.1
        · simp only [List.mem_cons, List.not_mem_nil, or_false] at hy
          rcases hy with rfl | rfl
          · exact kf.2
          · exact df.2
      · exact ⟨(set_fine g hst).1.mono (by decide), (set_fine g hst).2⟩) (by decide) (by show 2 ≤ 1000; decide)
    refine ⟨[p], _, _, True, rfl, purse_live cP.pu, exact_data (.lst (.inl (.inl (hid_at (kP.same _ _ hl1) l1S))) (.cons dtold (.cons (Dp.mono CR.sub cP.hnd) .nil))) (.lst (.inl (.inl (hid_at hl2 l2S))) (.cons (Dp.mono CR.sub cP.due) (.cons (Dp.mono CR.sub cP.set) .nil))) fin, fun bb HQ hbb kQ => ?_⟩
    rw [hbb.mpr True.intro]
    refine ⟨true, rfl, if_no rfl ?_⟩
    have cQ := cP.same kQ
    obtain ⟨hft, eft⟩ := farT_is ok lay.start
    have sft := ok.sets _ hft
    have hv : VHit K (hid [p] HQ) (.ref la) (fun k => PyData.eqv (eW k) (eW (farT f))) := .inl ⟨eW (farT f), cQ.late, (set_fine g sft).1.mono (by decide), (set_fine g sft).2, rfl⟩
    refine ⟨_, rfl, _, rfl, [p], d, od, (mostF f : Int), N, f, rfl, purse_live cQ.pu, cQ.lay, g, ok, fun v3 H3 ks3 k3 hks3 hl3 hv3 => ?_⟩
    have c3 := cQ.same k3
    obtain ⟨a3, x3, rfl, ha3, hx3⟩ := dp_list hv3
    refine ⟨a3, rfl, ⟨_, hid_le.seq ha3⟩, fun D hD => ?_⟩
    refine lcS (K := K) (items := ks3) (S := [p]) (walkD (f := eW) hx3) (fun z => .bool ((fun k => PyData.eqv (eW k) (eW (farT f))) z)) hD (purse_live c3.pu) (by omega) (fun H' kp => kp.same.seq (hid_le.seq ha3)) ?_ ?_
    · rintro j z x1 Hc Hd Yes hj kp hL ⟨rfl, y⟩ yes
      have hz := ((hks3 z).mp (List.mem_of_getElem? hj)).1
      have sm : Same (hid [p] H3) (hid (D :: [p]) Hd) := by
        rw [← hid_cons hD]
        exact kp.hid0
      refine ⟨rfl, _, rfl, _, rfl, D :: [p], .ref la, x1, _, rfl, hL, ((hv.mono k3.hid0).mono sm).ex (g.lows (ok.sets z hz)) (Dp.mono sm (y z hj)), fun b H' hb kp' => ?_⟩
      rw [b_iff hb]
      exact yes _ _ kp' (.bl _)
    intro H4 ys k4 hL4 hl4 hle4 da4 dp4
    have ey := da_bools da4
    rw [ey] at hl4
    refine ⟨D, ks3.map (fun k => PyData.eqv (eW k) (eW (farT f))), rfl, .inl (.inl hl4), ?_⟩
    rw [farH_any hks3, farH_self hft eft]
    refine ⟨true, rfl, if_no rfl ?_⟩
    exact r5 f lay ok v n (.ref ua) due hd told la d ca da od qs m H4 (some (.ref ol)) (by omega) (c3.same k4)
end
end K41
namespace K41
open PySem PySem.Spec PyProof.Rows L2 PySem.W
/-! ### the net of two stuck lamps -/
def loneN : Net := ⟨["s", "t"], [("s", "t")], fun _ => "stuck"⟩
theorem lone_s : Word "s" := ⟨by decide +kernel, by decide +kernel, by decide +kernel⟩
theorem lone_t : Word "t" := ⟨by decide +kernel, by decide +kernel, by decide +kernel⟩
theorem lone_lt : Lt "s" "t" := by decide +kernel
theorem lone_sorted : (["s", "t"] : List Str).Pairwise Lt := by
  refine List.Pairwise.cons (fun y hy => ?_) (List.pairwise_singleton _ _)
  rw [List.mem_singleton.mp hy]
  exact lone_lt
theorem lone_words : ∀ x ∈ (["s", "t"] : List Str), Word x := fun x hx => by
  rcases List.mem_cons.mp hx with rfl | hx
  · exact lone_s
  · rw [List.mem_singleton.mp hx]
    exact lone_t
theorem lone_good : Good loneN where
  sorted := lone_sorted
  words := lone_words
  some := by decide
  few := by decide
  tsorted := List.pairwise_singleton _ _
  tunlike := by simp [loneN]
  tok := fun t ht => by
    rw [List.mem_singleton.mp ht]
    exact ⟨lone_lt, List.mem_cons_self .., List.mem_cons_of_mem _ (List.mem_cons_self ..)⟩
  tfew := by decide
  wishes := fun l _ => by simp [loneN]
theorem lone_free (s : List Str) : readyL loneN s = [] := by
  unfold readyL
  have e : freeF loneN = [] := List.filter_eq_nil_iff.mpr fun l _ => by simp [loneN]
  rw [e]
  rfl
theorem lone_lay (s : List Str) : Layers loneN s [(s, 0)] := by
  have e : levelF loneN [(s, 0)] [s] = ([(s, 0)], []) := by
    show addH loneN ([(s, 0)], []) s = _
    unfold addH
    rw [lone_free]
    rfl
  refine Runs.step (by simp) ?_
  rw [e]
  exact .done _
theorem lone_set0 : IsSet loneN [] := ⟨List.Pairwise.nil, by simp⟩
theorem lone_sets : IsSet loneN ["s"] := ⟨List.pairwise_singleton _ _, fun x hx => by rw [List.mem_singleton.mp hx]; exact List.mem_cons_self ..⟩
theorem lone_sett : IsSet loneN ["t"] := ⟨List.pairwise_singleton _ _, fun x hx => by rw [List.mem_singleton.mp hx]; exact List.mem_cons_of_mem _ (List.mem_cons_self ..)⟩
theorem lone_setst : IsSet loneN ["s", "t"] := ⟨lone_sorted, fun x hx => hx⟩
theorem one_keys (s : List Str) : srt eW (keysF [(s, 0)]) = [s] := srt_id (List.pairwise_singleton _ _)
theorem one_deeds (s : List Str) : deedsF [(s, 0)] = [1] := rfl
theorem one_far (s : List Str) : farT [(s, 0)] = s := by
  unfold farT keysF
  have e : lkF [(s, 0)] s = mostF [(s, 0)] := by
    unfold lkF
    simp [mostF, numsF, mostL]
  simp [e]
theorem one_width {s : List Str} {m : Nat} (h : WidthIs loneN s m) : m = 0 := by
  obtain ⟨g, lay, ⟨k, hk, h, lk, e⟩, _⟩ := h
  have e1 := lk.det (lone_lay k)
  subst e1
  rw [← e]
  rfl
theorem one_no {k : List Str} : farB [(["s"], 0)] (eW []) = false := farB_no fun k hk e => by
  have e2 : k = (["s"] : List Str) := List.mem_singleton.mp hk
  rw [e2] at e
  exact absurd (eW_inj e) (by simp)
theorem set0 (N : Net) : IsSet N [] := ⟨List.Pairwise.nil, by simp⟩
section
variable {P : Program} {w : World} {K : PySem.W.Frag} {mg : Str → Option Value} {base : Heap} {C : Addr}
theorem make_ans2 {H : Hp} {E : XK} {x dx : Addr} (nx : H x = none) (ndx : H dx = none) (nex : dx ≠ x) {Q0 : Hp → Prop} {S : List Addr} {u v : L2.V} {d : Addr} {ws : List Str} {ts : List (Str × Str)} {wish : Str → Str} (hS : Live S H)
    (h1 : Dp K (hid S H) u (eW ws)) (h2 : Dp K (hid S H) v (eT ts)) (h3 : hid S H d = some (.dK (fk ws fun l => .str (wish l)))) (c1 : ∀ x ∈ ws, Word x) (c2 : ws.Nodup) (c3 : 0 < ws.length) (c4 : ws.length < 64) (c5 : ∀ t ∈ ts, TieOk ws t) (c6 : ts.Nodup) (c7 : ts.length < 64) (c8 : ∀ l ∈ ws, wish l ∈ (["odd", "even", "stuck"] : List Str))
    (k : ∀ H', Kp [] H H' → NetV K C (hid S H') (.ref x) ⟨srt PyData.str ws, srt eT2 ts, wish⟩ → Q0 H') : spInit K C (.ref x :: ([u, v, .ref d] ++ [])) (upd (upd H dx (.own x)) x (.ins C dx [])) (fun v H2 => v = .non ∧ Q0 H2) E := by
  have m : Same (hid S H) (hid (x :: S) (upd (upd H dx (.own x)) x (.ins C dx []))) := by
    rw [hid_in (List.mem_cons_self ..), ← hid_cons nx]
    exact hid_same (same_new ndx)
  have L : Live S (upd (upd H dx (.own x)) x (.ins C dx [])) := (hS.upd).upd
  refine ⟨S, x, dx, u, v, d, ws, ts, wish, rfl, L, not_mem_of hS nx, upd_same, Dp.mono m h1, Dp.mono m h2, m _ _ h3, c1, c2, c3, c4, c5, c6, c7, c8, fun H' kp hN => ⟨rfl, k H' ?_ hN⟩⟩
  intro b o e
  have e1 : b ≠ x := ne_of_none e nx
  have e2 : b ≠ dx := ne_of_none e ndx
  have q : (upd (upd H dx (.own x)) x (.ins C dx [])) b = some o := by
    rw [upd_ne e1, upd_ne e2]
    exact e
  exact ⟨(kp b o q).1, fun _ => (kp b o q).2 (by simpa using e1)⟩
def spLaw (K : PySem.W.Frag) : Sp := fun vs H Q _ => ∃ (a : Addr) (ns : List Int), vs = [.ref a] ∧ SqL K H a (ns.map L2.V.int) ∧ ∀ H', Q (.bl true) H'
theorem ok_law (Y : Env K mg C) {f : Addr} {fd : FuncData} (F : Fun K "law" "law" s_law f fd) : FnOk P w K mg base CX0 10 f fd ["_law_script"] (spLaw K) := by
  refine F.ok sc_law (fun vs H Q E h => ?_) (fun cdv A outer s H vs Q E hr h => ?_)
  · obtain ⟨a, ns, rfl, _⟩ := h
    rfl
  · obtain ⟨a, ns, rfl, hs, k⟩ := h
    have hu := hu_of hr
    have two : 2 ≤ sizeLine := by decide
    refine ⟨_, (pss_cons (ps_for PassesOwn.never rfl (K_pil (K := K) rfl (pe_def (c_l_purses Y) (hr.mono (by decide)) (pa_cons (pv 0) (pa_cons pe_int pa_nil)))) (pg_name (i := 1) sc_law.nd rfl (Or.inr rfl))
    (pss_cons (ps_set (i := 4) sc_law.nd rfl (Or.inl rfl) (pe_def (c_l_scene Y) (hr.mono (by decide)) (pa_cons (pv 1) (pa_cons pe_int pa_nil))))
    (pss_cons (ps_par (i := 8) (j := 9) rfl sc_law.nd rfl rfl (by decide) rfl rfl (pa_cons (pe_def (c_l_net Y) (hr.mono (by decide)) (pa_cons (pv 4) pa_nil)) (pa_cons (pe_def (c_l_setting Y) (hr.mono (by decide)) (pa_cons (pv 1) (pa_cons (pv 4) pa_nil))) pa_nil)) rfl)
    (pss_cons (ps_for PassesOwn.never rfl (K_pit (K := K) rfl (pe_tup (pa_cons (pv 9) (pa_cons (pe_def (c_l_setting Y) (hr.mono (by decide)) (pa_cons (pv 1) (pa_cons (pv 4) pa_nil))) (pa_cons (pe_lst pa_nil) (pa_cons (pv 9) pa_nil)))))) (pg_name (i := 5) sc_law.nd rfl (Or.inl rfl))
    (pss_one (ps_if (pt_not (pt_val (pe_def (c_l_class_right Y) (hr.mono (by decide)) (pa_cons (pv 1) (pa_cons (pv 4) (pa_cons (pv 8) (pa_cons (pv 5) pa_nil))))))) (pss_one (ps_ret pe_bl)) pss_nil)))
    (pss_cons (ps_set (i := 6) sc_law.nd rfl (Or.inr rfl) (pe_def (c_l_scene Y) (hr.mono (by decide)) (pa_cons (pv 1) (pa_cons (pe_op op_add pe_int (pe_callTy call_int1 (by rfl) Y.n_int (by decide +kernel) (pa_cons (pe_cmpR op_eq (pe_def (c_l_draw Y) (hr.mono (by decide)) (pa_cons (pv 1) (pa_cons pe_int pa_nil))) pe_int (nomark _)) pa_nil))) pa_nil))))
    (pss_cons (ps_if (pt_not (pt_val (pe_def (c_l_widths_right Y) (hr.mono (by decide)) (pa_cons (pv 1) (pa_cons (pv 6) (pa_cons (pe_lc (own := [("_law_turn", 12)]) rfl sc_law.nd (pi_range1 rfl Y.n_range (pa_cons pe_int pa_nil)) (blkOk_by (own := [("_law_turn", 12)]) (N := ["_law_script", "_law_purse_here", "_law_lone", "_law_told", "_law_net_here", "_law_setting_here", "_law_small", "_law_few", "_law_made", "_law_one", "_law_kite_here", "_law_start", "_law_turn"]) (sc := defScope s_law) (by decide +kernel)) (fun _ _ _ _ _ => (pg_name (i := 12) sc_law.nd rfl (Or.inl rfl))) (fun _ _ _ _ _ => pts_nil) (fun _ _ _ _ _ => (pe_def (c_l_setting Y) (hr.mono (by decide)) (pa_cons (pv 1) (pa_cons (pv 6) pa_nil))))) pa_nil)))))) (pss_one (ps_ret pe_bl)) pss_nil)
    (pss_cons (ps_asg (pe_def (c_l_kite Y) (hr.mono (by decide)) (pa_cons (pv 1) pa_nil)) (pg_lst rfl (pgs_cons (pg_name (i := 10) sc_law.nd rfl (Or.inl rfl)) (pgs_cons (pg_name (i := 11) sc_law.nd rfl (Or.inl rfl)) pgs_nil))))
    (pss_cons (ps_if (pt_not (pt_val (pe_def (c_l_widths_right Y) (hr.mono (by decide)) (pa_cons (pv 1) (pa_cons (pv 10) (pa_cons (pe_lst (pa_cons (pv 11) (pa_cons (pe_def (c_l_setting Y) (hr.mono (by decide)) (pa_cons (pv 1) (pa_cons (pv 10) pa_nil))) pa_nil))) pa_nil)))))) (pss_one (ps_ret pe_bl)) pss_nil)
    (pss_cons (ps_set (i := 7) sc_law.nd rfl (Or.inl rfl) (pe_def (c_l_scene Y) (hr.mono (by decide)) (pa_cons (pv 1) (pa_cons (pe_op op_add pe_int (pe_def (c_l_draw Y) (hr.mono (by decide)) (pa_cons (pv 1) (pa_cons pe_int pa_nil)))) pa_nil))))
    (pss_cons (ps_if (PW.pt (pw_or (pt_not (pt_val (pe_def (c_l_class_right Y) (hr.mono (by decide)) (pa_cons (pv 1) (pa_cons (pv 7) (pa_cons (pe_def (c_l_net Y) (hr.mono (by decide)) (pa_cons (pv 7) pa_nil)) (pa_cons (pe_def (c_l_setting Y) (hr.mono (by decide)) (pa_cons (pv 1) (pa_cons (pv 7) pa_nil))) pa_nil))))))) (pw_or1 (pt_not (pt_val (pe_def (c_l_widths_right Y) (hr.mono (by decide)) (pa_cons (pv 1) (pa_cons (pv 7) (pa_cons (pe_lst (pa_cons (pe_def (c_l_setting Y) (hr.mono (by decide)) (pa_cons (pv 1) (pa_cons (pv 7) pa_nil))) (pa_cons (pe_lst pa_nil) pa_nil))) pa_nil))))))))) (pss_one (ps_ret pe_bl)) pss_nil)
    (pss_one (ps_if (PW.pt (pw_or (pt_not (pt_val (pe_def (c_l_far_in_turn Y) (hr.mono (by decide)) (pa_cons (pv 1) (pa_cons (pv 4) (pa_cons (pv 8) (pa_cons (pv 9) (pa_cons (pe_def (c_l_setting Y) (hr.mono (by decide)) (pa_cons (pv 1) (pa_cons (pv 4) pa_nil))) pa_nil)))))))) (pw_or1 (pt_cmpR (neNet Y (k := 7) hr) (pv 8) (pe_def (c_l_net Y) (hr.mono (by decide)) (pa_cons (pv 4) pa_nil)) (nomark _))))) (pss_one (ps_ret pe_bl)) pss_nil))))))))))))
    (pss_cons (ps_set (i := 2) sc_law.nd rfl (Or.inl rfl) (pe_net Y (k := 4) hr (pa_cons (pe_lst (pa_cons pe_str (pa_cons pe_str pa_nil))) (pa_cons (pe_lst (pa_cons (pe_tup (pa_cons pe_str (pa_cons pe_str pa_nil))) pa_nil)) (pa_cons (pe_disp (pps_cons pe_str pe_str (pps_cons pe_str pe_str pps_nil)) (by rfl) (by rfl) (fun z => by cases z) (by decide)) pa_nil)))))
    (pss_cons (ps_set (i := 3) sc_law.nd rfl (Or.inl rfl) (pe_lst (pa_cons (pe_def (c_class_of Y) (hr.mono (by decide)) (pa_cons (pv 2) (pa_cons (pe_lst (pa_cons pe_str pa_nil)) pa_nil))) (pa_cons (pe_def (c_by_deeds Y) (hr.mono (by decide)) (pa_cons (pv 2) (pa_cons (pe_lst pa_nil) pa_nil))) (pa_cons (pe_def (c_farthest Y) (hr.mono (by decide)) (pa_cons (pv 2) (pa_cons (pe_lst (pa_cons pe_str pa_nil)) pa_nil))) (pa_cons (pe_def (c_is_farthest Y) (hr.mono (by decide)) (pa_cons (pv 2) (pa_cons (pe_lst (pa_cons pe_str pa_nil)) (pa_cons (pe_lst pa_nil) pa_nil)))) (pa_cons (pe_def (c_width Y) (hr.mono (by decide)) (pa_cons (pv 2) (pa_cons (pe_lst (pa_cons pe_str (pa_cons pe_str pa_nil))) pa_nil))) pa_nil)))))))
    (pss_one (ps_ret (pe_def (c_l_exact Y 8) (hr.mono (by decide)) (pa_cons (pv 3) (pa_cons (pe_lst (pa_cons (pe_lst (pa_cons (pe_lst (pa_cons pe_str pa_nil)) pa_nil)) (pa_cons (pe_lst (pa_cons pe_int pa_nil)) (pa_cons (pe_lst (pa_cons pe_str pa_nil)) (pa_cons pe_bl (pa_cons pe_int pa_nil)))))) pa_nil)))))))), ?_⟩
    refine ⟨_, rfl, a, ns, rfl, hs, fun l p H1 k1 nl hl np hP => ?_⟩
    have pm : p ∈ [p] := List.mem_singleton.mpr rfl
    have lp : l ∉ [p] := fun z => by
      obtain ⟨x1, x2, x3, q, _⟩ := hP
      rw [← List.mem_singleton.mp z, hl] at q
      cases q
    refine ⟨l, rfl, ⟨_, .inl (.inl hl)⟩, ?_⟩
    refine for_it (walk_list (xs := [.ref p])) (fun i σ H' => (∃ o1 o4 o5 o6 o7 o8 o9 o10 o11 o12 : Option L2.V, σ = [some (.ref a), o1, none, none, o4, o5, o6, o7, o8, o9, o10, o11, o12] ∧ (i = 0 → o4 = none ∧ o5 = none ∧ o6 = none ∧ o7 = none ∧ o8 = none ∧ o9 = none ∧ o10 = none ∧ o11 = none ∧ o12 = none)) ∧ Kp [p] H1 H' ∧ (i = 0 → H' = H1))
      ⟨⟨_, _, _, _, _, _, _, _, _, _, rfl, fun _ => ⟨rfl, rfl, rfl, rfl, rfl, rfl, rfl, rfl, rfl⟩⟩, .refl, fun _ => rfl⟩ (fun i σ H' _ ⟨_, kk, _⟩ => .inl (.inl (kk.at lp hl))) ?_ ?_
    · rintro i x σ Ha Hb hi ⟨⟨o1, o4, o5, o6, o7, o8, o9, o10, o11, o12, rfl, hn⟩, kk, h0⟩ ⟨rfl, hx⟩
      have i0 : i = 0 := by
        have : i < 1 := hi
        omega
      subst i0
      obtain ⟨rfl, rfl, rfl, rfl, rfl, rfl, rfl, rfl, rfl⟩ := hn rfl
      have eH := h0 rfl
      subst eH
      cases hx
      -- the net, its instance, a setting
      have pin : ∀ b ∈ [p], b ∈ [p] := fun b hb => hb
      refine ⟨_, rfl, p, 6, 0, rfl, by decide, by decide, hP, by decide, fun v0 H2 N k2 P2 hN g => ?_⟩
      have P2 : Purse H2 p 1000 := P2
      refine ⟨_, rfl, [p], v0, N, rfl, purse_live P2, hN, g, fun n H3 k3 hn => ?_⟩
      have P3 := P2.kp k3 (by simp)
      have hN3 := hN.mono k3.hid0
      refine ⟨_, rfl, _, rfl, [p], p, 1000, v0, N, rfl, purse_live P3, pm, P3, by decide, hN3, g, fun u1 H4 s1 k4 P4 hs1 hu1 => ?_⟩
      have hN4 := hN3.mono (k4.hid pin)
      have hn4 := hn.mono (k4.hid pin)
      have kb4 : Kp [p] Hb H4 := (k2.trans k3.nil).trans k4
      refine ⟨_, _, rfl, ?_⟩
      clear k2 hN k3 hn P3 hN3 k4
      -- four settings of it
      refine ⟨_, rfl, _, rfl, _, rfl, [p], p, 1000 + 8, v0, N, rfl, purse_live P4, pm, P4, by decide, hN4, g, fun u2 H5 s2 k5 P5 hs2 hu2 => ?_⟩
      have hN5 := hN4.mono (k5.hid pin)
      have hn5 := hn4.mono (k5.hid pin)
      have hu15 := Dp.mono (k5.hid pin) hu1
      have kb5 := kb4.trans k5
      refine ⟨Nat.zero_le _, fun q6 n6 => ?_⟩
      have k6 : Kp [] H5 (upd H5 q6 (.lst [])) := kp_new n6
      have d6 : Dp K (hid [p] (upd H5 q6 (.lst []))) (.ref q6) (eW []) := words_dp (ws := []) (.inl (.inl (hid_at upd_same (not_mem_of (purse_live P5) n6))))
      generalize (upd H5 q6 (.lst [])) = H6 at k6 d6 ⊢
      have P6 := P5.kp k6 (by simp)
      refine ⟨_, rfl, by show 4 ≤ sizeLine; decide, fun tq ntq => ?_⟩
      have k7 : Kp [] H6 (upd H6 tq (.tup [u1, u2, .ref q6, u1])) := kp_new ntq
      have htq : (upd H6 tq (.tup [u1, u2, .ref q6, u1])) tq = some (.tup [u1, u2, .ref q6, u1]) := upd_same
      have tqp : tq ∉ [p] := not_mem_of (purse_live P6) ntq
      generalize (upd H6 tq (.tup [u1, u2, .ref q6, u1])) = H7 at k7 htq ⊢
      have k57 := k6.trans k7
      have P7 : Purse H7 p 1016 := P5.kp k57 (by simp)
      have hN7 := hN5.mono k57.hid0
      have hn7 := hn5.mono k57.hid0
      have hu17 := Dp.mono k57.hid0 hu15
      have hu27 := Dp.mono k57.hid0 hu2
      have d67 := Dp.mono k7.hid0 d6
      have kb7 := kb5.trans k57.nil
      have hall : ∀ x ∈ [u1, u2, L2.V.ref q6, u1], ∃ z, Dp K (hid [p] H7) x (eW z) ∧ IsSet N z := fun x hx => by
        simp only [List.mem_cons, List.not_mem_nil, or_false] at hx
        rcases hx with rfl | rfl | rfl | rfl
        · exact ⟨_, hu17, hs1⟩
        · exact ⟨_, hu27, hs2⟩
        · exact ⟨_, d67, set0 N⟩
        · exact ⟨_, hu17, hs1⟩
      clear hN4 hn4 kb4 hN5 hn5 hu15 kb5 k6 d6 P6 k7 hu2 hu27 d67 k57 k5
      refine ⟨tq, rfl, ⟨_, .inl (.inl htq)⟩, ?_⟩
      refine for_it walk_tup (fun i σ H' => ∃ o5 : Option L2.V, σ = [some (.ref a), some (.ref p), none, none, some v0, o5, none, none, some (.ref n), some u1, none, none, none] ∧ Kp [p] H7 H' ∧ Purse H' p (1016 + 400 * i)) ⟨_, rfl, .refl, P7⟩ (fun i σ H' _ ⟨_, _, kk, _⟩ => .inl (.inl (kk.at tqp htq))) ?_ ?_
      · rintro i x σ Hx Hc hi ⟨o5, rfl, kk, Pi⟩ ⟨rfl, hx⟩
        have hi4 : i < 4 := hi
        obtain ⟨z, hz1, hz2⟩ := hall x (List.mem_of_getElem? hx)
        refine ⟨_, rfl, _, rfl, _, rfl, _, rfl, p, 1016 + 400 * i, v0, .ref n, x, N, z, rfl, Pi, by omega, hN7.mono (kk.hid pin), hn7.mono (kk.hid pin), g, Dp.mono (kk.hid pin) hz1, hz2, fun Hd kd Pd => ?_⟩
        refine ⟨true, rfl, if_no rfl ?_⟩
        exact ⟨_, rfl, kk.trans kd, Pd.mono (by omega)⟩
      rintro σ H8 ⟨o5, rfl, k8, P8⟩
      have P8 : Purse H8 p 3000 := P8.mono (by show 1016 + 400 * 4 ≤ 3000; decide)
      have hN8 := hN7.mono (k8.hid pin)
      have hn8 := hn7.mono (k8.hid pin)
      have hu18 := Dp.mono (k8.hid pin) hu17
      have kb8 := kb7.trans k8
      clear hN7 hn7 hu17 kb7 k8 P7 htq tqp hall
      -- a small net's width
      refine ⟨_, rfl, _, rfl, [p], p, 3000, _, [.int 6], rfl, purse_live P8, pm, P8, by decide, .cons (.int _) .nil, ⟨_, rfl, by decide, by decide⟩, fun v9 H9 d9 k9 P9 hr9 hv9 => ?_⟩
      obtain ⟨j9, rfl, _, _⟩ := draw_is hr9 hv9
      refine ⟨rfl, .inr ⟨_, rfl, _, _, rfl, rfl, ?_⟩⟩
      have hb9 : ∀ b : Bool, (1 : Int) ≤ 4 + (if b = true then 1 else 0) ∧ (4 : Int) + (if b = true then 1 else 0) ≤ 6 := fun b => by cases b <;> decide
      have hb9' := hb9 (decide (L2.V.int j9 = L2.V.int 0))
      refine ⟨p, _, 3000 + 1, rfl, hb9'.1, hb9'.2, P9, by decide, fun v10 H10 N10 k10 P10 hN10 g10 => ?_⟩
      have P10 : Purse H10 p 4001 := P10
      have kb10 := (kb8.trans k9).trans k10
      have F10 := (k9.trans k10).hid (S := [p]) pin
      have hN10' := hN8.mono F10
      have hn10 := hn8.mono F10
      have hu110 := Dp.mono F10 hu18
      clear hN8 hn8 hu18 kb8 F10 hb9 hb9' k9 k10 P9 hr9 hv9
      refine ⟨_, rfl, _, rfl, 3, rfl, by decide, by decide, fun D hD => ?_⟩
      have hpD : p ≠ D := P10.ne hD
      refine lcRM (K := K) (S := [p]) (T := [p]) (n := (3 : Int).toNat) walk_range (fun i H' => Purse H' p (4001 + 8 * i)) (fun i ds => ∃ ss : List (List Str), ds = ss.map eW ∧ ss.length = i ∧ ∀ z ∈ ss, IsSet N10 z) hD pin (purse_live P10) (by decide) (fun _ _ => trivial) ⟨[], rfl, rfl, by simp⟩ P10 (fun i H' o h => h.upd hpD) ?_ ?_
      · rintro i x Hc Hd ds Yes hi kp hL hPi ⟨ss, rfl, hsl, hss⟩ ⟨rfl, y⟩ yes
        have hi3 : i < 3 := hi
        have sm : Same (hid [p] H10) (hid (D :: [p]) Hd) := by
          rw [← hid_cons hD]
          exact kp.hid fun b hb => List.mem_cons_of_mem _ hb
        refine ⟨rfl, _, rfl, _, rfl, D :: [p], p, 4001 + 8 * i, v10, N10, rfl, hL, List.mem_cons_of_mem _ pm, hPi, by omega, hN10.mono sm, g10, fun v' H' z kz Pz hz hv' => ?_⟩
        exact yes _ _ (eW z) kz (Pz.mono (by omega)) hv' ⟨ss ++ [z], by rw [List.map_append]; rfl, by rw [List.length_append, hsl]; rfl, fun y hy => by
          rcases List.mem_append.mp hy with hy | hy
          · exact hss y hy
          · rw [List.mem_singleton.mp hy]
            exact hz⟩
      rintro H11 ys11 ds11 k11 hL11 P11 ⟨ss, rfl, hsl, hss⟩ hl11 hle11 da11 dp11
      have hsl3 : ss.length = 3 := hsl
      have P11 : Purse H11 p 4100 := P11.mono (by decide)
      refine ⟨p, 4100, v10, .ref D, N10, ss, rfl, P11, by decide, hN10.mono (k11.hid pin), g10, dp11, hss, by omega, by omega, fun H12 k12 P12 => ?_⟩
      refine ⟨true, rfl, if_no rfl ?_⟩
      have kb12 := (kb10.trans k11).trans k12
      have F12 := (k11.trans k12).hid (S := [p]) pin
      have hN12 := hN10'.mono F12
      have hn12 := hn10.mono F12
      have hu112 := Dp.mono F12 hu110
      clear hN10' hn10 hu110 kb10 F12 k11 k12 P11 da11 dp11 hl11 hle11 hL11 hss
      -- the kite
      refine ⟨_, rfl, [p], p, 4100 + 10, rfl, purse_live P12, pm, P12, by decide, fun z kn ku H13 N13 s13 k13 P13 hz hkn g13 hku hs13 => ?_⟩
      refine ⟨z, _, rfl, hid_le.seq hz, rfl, _, _, rfl, _, _, rfl, rfl, ?_⟩
      refine ⟨_, rfl, _, rfl, _, rfl, _, rfl, _, rfl, [p], p, 4100 + 10 + 300, kn, N13, rfl, purse_live P13, pm, P13, by decide, hkn, g13, fun u14 H14 s14 k14 P14 hs14 hu14 => ⟨two, fun l15 nl15 => ?_⟩⟩
      have k15 : Kp [] H14 (upd H14 l15 (.lst [ku, u14])) := kp_new nl15
      have l15p : l15 ∉ [p] := not_mem_of (purse_live P14) nl15
      have F14 := k14.hid (S := [p]) pin
      have d15 : Dp K (hid [p] (upd H14 l15 (.lst [ku, u14]))) (.ref l15) (.list ([s13, s14].map eW)) := .lst (.inl (.inl (hid_at upd_same l15p))) (.cons (Dp.mono (F14.trans k15.hid0) hku) (.cons (Dp.mono k15.hid0 hu14) .nil))
      have hkn15 := hkn.mono (F14.trans k15.hid0)
      have P15 : Purse (upd H14 l15 (.lst [ku, u14])) p 4500 := (P14.kp k15 (by simp)).mono (by decide)
      generalize (upd H14 l15 (.lst [ku, u14])) = H15 at k15 d15 hkn15 P15 ⊢
      refine ⟨p, 4500, kn, .ref l15, N13, [s13, s14], rfl, P15, by decide, hkn15, g13, d15, fun y hy => ?_, by show 0 < 2; decide, by show 2 ≤ 10; decide, fun H16 k16 P16 => ?_⟩
      · rcases List.mem_cons.mp hy with rfl | hy
        · exact hs13
        · rw [List.mem_singleton.mp hy]
          exact hs14
      refine ⟨true, rfl, if_no rfl ?_⟩
      have kA16 := ((k13.trans k14).trans k15.nil).trans k16
      have kb16 := kb12.trans kA16
      have F16 := kA16.hid (S := [p]) pin
      have hN16 := hN12.mono F16
      have hn16 := hn12.mono F16
      have hu116 := Dp.mono F16 hu112
      clear hN12 hn12 hu112 kb12 kA16 F16 k13 k14 k15 k16 hz hkn hku d15 hkn15 P15 P13 P14 F14 P12
      -- few lamps
      refine ⟨_, rfl, _, rfl, [p], p, 4500 + 10, _, [.int 2], rfl, purse_live P16, pm, P16, by decide, .cons (.int _) .nil, ⟨_, rfl, by decide, by decide⟩, fun v17 H17 d17 k17 P17 hr17 hv17 => ?_⟩
      obtain ⟨j17, rfl, j0, j1⟩ := draw_is hr17 hv17
      refine ⟨_, _, rfl, rfl, p, _, 4500 + 10 + 1, rfl, by omega, by omega, P17, by decide, fun v18 H18 N18 k18 P18 hN18 g18 => ?_⟩
      have P18 : Purse H18 p 6000 := P18.mono (by decide)
      refine ⟨_, rfl, _, rfl, _, rfl, [p], v18, N18, rfl, purse_live P18, hN18, g18, fun n19 H19 k19 hn19 => ?_⟩
      have P19 := P18.kp k19 (by simp)
      have hN19 := hN18.mono k19.hid0
      refine ⟨_, rfl, _, rfl, [p], p, 6000, v18, N18, rfl, purse_live P19, pm, P19, by decide, hN19, g18, fun u20 H20 s20 k20 P20 hs20 hu20 => ?_⟩
      have F20 := k20.hid (S := [p]) pin
      have hN20 := hN19.mono F20
      refine ⟨p, 6000 + 8, v18, .ref n19, u20, N18, s20, rfl, P20, by decide, hN20, hn19.mono F20, g18, hu20, hs20, fun H21 k21 P21 => ?_⟩
      refine ⟨true, rfl, if_no rfl ?_⟩
      have hN21 := hN20.mono (k21.hid pin)
      refine ⟨_, rfl, _, rfl, _, rfl, _, rfl, [p], p, 6000 + 8 + 400, v18, N18, rfl, purse_live P21, pm, P21, by decide, hN21, g18, fun u22 H22 s22 k22 P22 hs22 hu22 => ⟨Nat.zero_le _, fun q23 nq23 => ?_⟩⟩
      have k23 : Kp [] H22 (upd H22 q23 (.lst [])) := kp_new nq23
      have d23 : Dp K (hid [p] (upd H22 q23 (.lst []))) (.ref q23) (eW []) := words_dp (ws := []) (.inl (.inl (hid_at upd_same (not_mem_of (purse_live P22) nq23))))
      generalize (upd H22 q23 (.lst [])) = H23 at k23 d23 ⊢
      have P23 := P22.kp k23 (by simp)
      refine ⟨two, fun l24 nl24 => ?_⟩
      have k24 : Kp [] H23 (upd H23 l24 (.lst [u22, .ref q23])) := kp_new nl24
      have d24 : Dp K (hid [p] (upd H23 l24 (.lst [u22, .ref q23]))) (.ref l24) (.list ([s22, []].map eW)) := .lst (.inl (.inl (hid_at upd_same (not_mem_of (purse_live P23) nl24)))) (.cons (Dp.mono (k23.trans k24).hid0 hu22) (.cons (Dp.mono k24.hid0 d23) .nil))
      have P24 : Purse (upd H23 l24 (.lst [u22, .ref q23])) p 7000 := (P23.kp k24 (by simp)).mono (by decide)
      generalize (upd H23 l24 (.lst [u22, .ref q23])) = H24 at k24 d24 P24 ⊢
      have hN24 := hN21.mono ((k22.trans (k23.trans k24).nil).hid pin)
      refine ⟨p, 7000, v18, .ref l24, N18, [s22, []], rfl, P24, by decide, hN24, g18, d24, fun y hy => ?_, by show 0 < 2; decide, by show 2 ≤ 10; decide, fun H25 k25 P25 => ?_⟩
      · rcases List.mem_cons.mp hy with rfl | hy
        · exact hs22
        · rw [List.mem_singleton.mp hy]
          exact set0 _
      refine ⟨true, rfl, if_no rfl ?_⟩
      have kA25 := ((((((k17.trans k18).trans k19.nil).trans k20).trans k21).trans k22).trans (k23.trans k24).nil).trans k25
      have kb25 := kb16.trans kA25
      have F25 := kA25.hid (S := [p]) pin
      have hN25 := hN16.mono F25
      have hn25 := hn16.mono F25
      have hu125 := Dp.mono F25 hu116
      clear hN16 hn16 hu116 kb16 kA25 F25 k17 k18 k19 k20 k21 k22 k23 k24 k25 d24 d23 P24 P23 hN24 hN21 hN20 F20 hN19 P19
      -- in turn
      refine ⟨_, rfl, _, rfl, _, rfl, _, rfl, _, rfl, _, rfl, [p], p, 7000 + 10, v0, N, rfl, purse_live P25, pm, P25, by decide, hN25, g, fun u26 H26 s26 k26 P26 hs26 hu26 => ?_⟩
      have F26 := k26.hid (S := [p]) pin
      have hN26 := hN25.mono F26
      have hn26 := hn25.mono F26
      refine ⟨p, 7000 + 10 + 8, v0, .ref n, u1, u26, N, s1, s26, rfl, P26, by decide, hN26, hn26, g, Dp.mono F26 hu125, hu26, hs1, hs26, fun H27 k27 P27 => ?_⟩
      refine ⟨true, rfl, if_no rfl ?_⟩
      have F27 := k27.hid (S := [p]) pin
      refine ⟨_, rfl, _, rfl, [p], v0, N, rfl, purse_live P27, hN26.mono F27, g, fun n28 H28 k28 hn28 => ?_⟩
      have hn28' := hn26.mono (F27.trans k28.hid0)
      obtain ⟨i1, dx1, b1, e1, w1, r1, f1, q1, ei1, hi1, _⟩ := hn28'.mono hid_le
      cases ei1
      obtain ⟨i2, dx2, b2, e2, w2, r2, f2, q2, ei2, hi2, _⟩ := hn28.mono hid_le
      cases ei2
      refine ⟨n, n28, dx1, dx2, _, _, rfl, rfl, hi1, hi2, ⟨N, hn28'.mono hid_le, hn28.mono hid_le, g⟩, fun H29 e29 => ⟨_, rfl, if_no rfl ?_⟩⟩
      exact ⟨⟨_, _, _, _, _, _, _, _, _, _, rfl, fun h => absurd h (by decide)⟩, (((kb25.trans k26).trans k27).trans k28.nil).trans (kp_same e29), fun h => absurd h (by decide)⟩
    · rintro σ Ha ⟨⟨o1, o4, o5, o6, o7, o8, o9, o10, o11, o12, rfl, _⟩, _, _⟩
      -- the net of two stuck lamps
      refine ⟨two, fun l1 nl1 => ?_⟩
      have k1 : Kp [] Ha (upd Ha l1 (.lst [.str "s", .str "t"])) := kp_new nl1
      have hl1 : (upd Ha l1 (.lst [.str "s", .str "t"])) l1 = some (.lst [.str "s", .str "t"]) := upd_same
      generalize (upd Ha l1 (.lst [.str "s", .str "t"])) = H1' at k1 hl1 ⊢
      refine ⟨two, fun t1 nt1 => ⟨by show 1 ≤ sizeLine; decide, fun l2 nl2 => ?_⟩⟩
      have k2 : Kp [] H1' (upd H1' t1 (.tup [.str "s", .str "t"])) := kp_new nt1
      have ht1 : (upd H1' t1 (.tup [.str "s", .str "t"])) t1 = some (.tup [.str "s", .str "t"]) := upd_same
      generalize (upd H1' t1 (.tup [.str "s", .str "t"])) = H2 at k2 ht1 nl2 ⊢
      have k3 : Kp [] H2 (upd H2 l2 (.lst [.ref t1])) := kp_new nl2
      have hl2 : (upd H2 l2 (.lst [.ref t1])) l2 = some (.lst [.ref t1]) := upd_same
      generalize (upd H2 l2 (.lst [.ref t1])) = H3 at k3 hl2 ⊢
      refine fun dw ndw => ⟨upd_same, [(Sum.inr "s", .str "stuck"), (Sum.inr "t", .str "stuck")], rfl, by decide, ?_⟩
      have k4 : Kp [] H3 (upd (upd H3 dw (.dK [])) dw (.dK (mergeK [] [(Sum.inr "s", .str "stuck"), (Sum.inr "t", .str "stuck")]))) := (kp_new ndw).put ndw
      have hdw : (upd (upd H3 dw (.dK [])) dw (.dK (mergeK [] [(Sum.inr "s", .str "stuck"), (Sum.inr "t", .str "stuck")]))) dw = some (.dK (fk ["s", "t"] fun _ => .str "stuck")) := upd_same
      generalize (upd (upd H3 dw (.dK [])) dw (.dK (mergeK [] [(Sum.inr "s", .str "stuck"), (Sum.inr "t", .str "stuck")]))) = H4 at k4 hdw ⊢
      have one : 1 ≤ sizeLine := by decide
      have e0 : ∀ G : Hp, hid [] G = G := fun G => hid_nil
      have k24 := k3.trans k4
      intro n dx nx ndx nex
      refine make_ans2 (S := []) (ws := ["s", "t"]) (ts := [("s", "t")]) (wish := fun _ => "stuck") nx ndx nex Live.nil ?_ ?_ ?_ lone_words (lt_nodup lone_sorted) (by show 0 < 2; decide) (by show 2 < 64; decide) (fun t ht => ?_) lone_good.tunlike (by show 1 < 64; decide) (fun l _ => by simp) (fun H5 k5 hN => ?_)
      · rw [e0]
        exact words_dp (ws := ["s", "t"]) (.inl (.inl ((k2.trans k24).same _ _ hl1)))
      · rw [e0]
        exact .lst (ds := [eT2 ("s", "t")]) (.inl (.inl (k4.same _ _ hl2))) (.cons (tie_dp (t := ("s", "t")) (.inl (.inl (k24.same _ _ ht1)))) .nil)
      · rw [e0]
        exact hdw
      · rw [List.mem_singleton.mp ht]
        exact ⟨lone_s, lone_t, lone_lt, List.mem_cons_self .., List.mem_cons_of_mem _ (List.mem_cons_self ..)⟩
      have eN : (⟨srt PyData.str ["s", "t"], srt eT2 [("s", "t")], fun _ => "stuck"⟩ : Net) = loneN := by
        rw [srt_id (lt_pw lone_sorted), srt_id (List.pairwise_singleton _ _)]
        rfl
      rw [eN] at hN
      clear k1 hl1 k2 ht1 k3 hl2 k4 hdw k24 k5
      -- told of it
      have wd : ∀ {G : Hp} {q : Addr} {ws : List Str}, G q = some (.lst (ws.map L2.V.str)) → Dp K (hid [] G) (.ref q) (eW ws) := fun {G q ws} h => by
        rw [e0]
        exact words_dp (.inl (.inl h))
      refine ⟨_, rfl, one, fun q1 nq1 => ?_⟩
      have k6 : Kp [] H5 (upd H5 q1 (.lst [.str "t"])) := kp_new nq1
      have d6 := wd (ws := ["t"]) (G := upd H5 q1 (.lst [.str "t"])) (q := q1) upd_same
      generalize (upd H5 q1 (.lst [.str "t"])) = H6 at k6 d6 ⊢
      refine ⟨[], .ref n, .ref q1, loneN, ["t"], rfl, Live.nil, hN.mono k6.hid0, lone_good, d6, lone_sett, fun a1 H7 ys g1 lay1 ok1 k7 na1 ha1 hda1 _ => ?_⟩
      have eg1 := lay1.det (lone_lay ["t"])
      rw [eg1, one_keys] at hda1
      have k57 := k6.trans k7
      refine ⟨_, rfl, Nat.zero_le _, fun q2 nq2 => ?_⟩
      have k8 : Kp [] H7 (upd H7 q2 (.lst [])) := kp_new nq2
      have d8 := wd (ws := []) (G := upd H7 q2 (.lst [])) (q := q2) upd_same
      generalize (upd H7 q2 (.lst [])) = H8 at k8 d8 ⊢
      have k58 := k57.trans k8
      refine ⟨[], .ref n, .ref q2, loneN, [], rfl, Live.nil, hN.mono k58.hid0, lone_good, d8, lone_set0, fun a2 H9 g2 lay2 ok2 k9 na2 ha2 => ?_⟩
      have eg2 := lay2.det (lone_lay [])
      rw [eg2, one_deeds] at ha2
      have k59 := k58.trans k9
      refine ⟨_, rfl, one, fun q3 nq3 => ?_⟩
      have k10 : Kp [] H9 (upd H9 q3 (.lst [.str "s"])) := kp_new nq3
      have d10 := wd (ws := ["s"]) (G := upd H9 q3 (.lst [.str "s"])) (q := q3) upd_same
      generalize (upd H9 q3 (.lst [.str "s"])) = H10 at k10 d10 ⊢
      have k510 := k59.trans k10
      refine ⟨[], .ref n, .ref q3, loneN, ["s"], rfl, Live.nil, hN.mono k510.hid0, lone_good, d10, lone_sets, fun a3 H11 g3 t3 lay3 ok3 k11 na3 ha3 ht3 _ => ?_⟩
      have eg3 := lay3.det (lone_lay ["s"])
      rw [eg3] at ht3
      have et3 : t3 = (["s"] : List Str) := List.mem_singleton.mp ht3
      rw [et3] at ha3
      have k511 := k510.trans k11
      refine ⟨_, rfl, one, fun q4 nq4 => ?_⟩
      have k12 : Kp [] H11 (upd H11 q4 (.lst [.str "s"])) := kp_new nq4
      have d12 := wd (ws := ["s"]) (G := upd H11 q4 (.lst [.str "s"])) (q := q4) upd_same
      generalize (upd H11 q4 (.lst [.str "s"])) = H12 at k12 d12 ⊢
      refine ⟨Nat.zero_le _, fun q5 nq5 => ?_⟩
      have k13 : Kp [] H12 (upd H12 q5 (.lst [])) := kp_new nq5
      have d13 := wd (ws := []) (G := upd H12 q5 (.lst [])) (q := q5) upd_same
      generalize (upd H12 q5 (.lst [])) = H13 at k13 d13 ⊢
      have k1113 := k12.trans k13
      have k513 := k511.trans k1113
      refine ⟨[], .ref n, .ref q4, .ref q5, loneN, ["s"], eW [], rfl, Live.nil, hN.mono k513.hid0, lone_good, Dp.mono k13.hid0 d12, lone_sets, d13, (fine_words (ws := []) (by simp)).shaped (by decide), fun H14 g4 lay4 ok4 k14 => ?_⟩
      have eg4 := lay4.det (lone_lay ["s"])
      rw [eg4, one_no (k := [])]
      have k514 := k513.trans k14
      refine ⟨_, rfl, two, fun q6 nq6 => ?_⟩
      have k15 : Kp [] H14 (upd H14 q6 (.lst [.str "s", .str "t"])) := kp_new nq6
      have d15 := wd (ws := ["s", "t"]) (G := upd H14 q6 (.lst [.str "s", .str "t"])) (q := q6) upd_same
      generalize (upd H14 q6 (.lst [.str "s", .str "t"])) = H15 at k15 d15 ⊢
      refine ⟨[], .ref n, .ref q6, loneN, ["s", "t"], rfl, Live.nil, hN.mono (k514.trans k15).hid0, lone_good, d15, lone_setst, fun H16 m hm k16 => ?_⟩
      have em := one_width hm
      subst em
      refine ⟨by show 5 ≤ sizeLine; decide, fun l5 nl5 => ?_⟩
      have k17 : Kp [] H16 (upd H16 l5 (.lst [.ref a1, .ref a2, .ref a3, .bl false, .int ((0 : Nat) : Int)])) := kp_new nl5
      have h17 : (upd H16 l5 (.lst [.ref a1, .ref a2, .ref a3, .bl false, .int ((0 : Nat) : Int)])) l5 = some (.lst [.ref a1, .ref a2, .ref a3, .bl false, .int ((0 : Nat) : Int)]) := upd_same
      generalize (upd H16 l5 (.lst [.ref a1, .ref a2, .ref a3, .bl false, .int ((0 : Nat) : Int)])) = H17 at k17 h17 ⊢
      have k1117 := ((k1113.trans k14).trans (k15.trans k16)).trans k17
      have k917 := (k10.trans k11).trans k1117
      have k717 := (k8.trans k9).trans k917
      -- what is asked
      refine ⟨_, rfl, one, fun r1 nr1 => ⟨one, fun r2 nr2 => ⟨one, fun r3 nr3 => ⟨one, fun r4 nr4 => ⟨by show 5 ≤ sizeLine; decide, fun r5 nr5 => ?_⟩⟩⟩⟩⟩
      have j1 : Kp [] H17 (upd H17 r1 (.lst [.str "t"])) := kp_new nr1
      have g1' : (upd H17 r1 (.lst [.str "t"])) r1 = some (.lst [.str "t"]) := upd_same
      generalize (upd H17 r1 (.lst [.str "t"])) = G1 at j1 g1' nr2 nr3 nr4 nr5 ⊢
      have j2 : Kp [] G1 (upd G1 r2 (.lst [.ref r1])) := kp_new nr2
      have g2' : (upd G1 r2 (.lst [.ref r1])) r2 = some (.lst [.ref r1]) := upd_same
      generalize (upd G1 r2 (.lst [.ref r1])) = G2 at j2 g2' nr3 nr4 nr5 ⊢
      have j3 : Kp [] G2 (upd G2 r3 (.lst [.int 1])) := kp_new nr3
      have g3' : (upd G2 r3 (.lst [.int 1])) r3 = some (.lst [.int 1]) := upd_same
      generalize (upd G2 r3 (.lst [.int 1])) = G3 at j3 g3' nr4 nr5 ⊢
      have j4 : Kp [] G3 (upd G3 r4 (.lst [.str "s"])) := kp_new nr4
      have g4' : (upd G3 r4 (.lst [.str "s"])) r4 = some (.lst [.str "s"]) := upd_same
      generalize (upd G3 r4 (.lst [.str "s"])) = G4 at j4 g4' nr5 ⊢
      have j5 : Kp [] G4 (upd G4 r5 (.lst [.ref r2, .ref r3, .ref r4, .bl false, .int 0])) := kp_new nr5
      have g5' : (upd G4 r5 (.lst [.ref r2, .ref r3, .ref r4, .bl false, .int 0])) r5 = some (.lst [.ref r2, .ref r3, .ref r4, .bl false, .int 0]) := upd_same
      generalize (upd G4 r5 (.lst [.ref r2, .ref r3, .ref r4, .bl false, .int 0])) = G5 at j5 g5' ⊢
      have j35 := j4.trans j5
      have j25 := j3.trans j35
      have j15 := j2.trans j25
      have j05 := j1.trans j15
      have w1 : Dp K (hid [] G5) (.ref r1) (eW ["t"]) := wd (ws := ["t"]) (j15.same _ _ g1')
      have w4 : Dp K (hid [] G5) (.ref r4) (eW ["s"]) := wd (ws := ["s"]) (j5.same _ _ g4')
      have x3 : Dp K (hid [] G5) (.ref a3) (eW ["s"]) := wd (ws := ["s"]) ((k1117.trans j05).same _ _ ha3)
      have x1 := DpAll.mono (k717.trans j05).hid0 hda1
      have y1 := (k717.trans j05).same _ _ ha1
      have y2 := (k917.trans j05).same _ _ ha2
      have y5 := j05.same _ _ h17
      have z2 := j25.same _ _ g2'
      have z3 := j35.same _ _ g3'
      have rhs : Dp K (hid [] G5) (.ref r5) (.list [.list [eW ["t"]], .list [.int 1], eW ["s"], .bool false, .int 0]) := by
        rw [e0] at w1 w4 ⊢
        exact .lst (.inl (.inl g5')) (.cons (.lst (.inl (.inl z2)) (.cons w1 .nil)) (.cons (.lst (.inl (.inl z3)) (.cons (.int 1) .nil)) (.cons w4 (.cons (.bl false) (.cons (.int 0) .nil)))))
      have lhs : Dp K (hid [] G5) (.ref l5) (.list [.list [eW ["t"]], .list [.int 1], eW ["s"], .bool false, .int 0]) := by
        rw [e0] at x3 x1 ⊢
        exact .lst (.inl (.inl y5)) (.cons (.lst (.inl (.inl y1)) x1) (.cons (.lst (.inl (.inl y2)) (.cons (.int 1) .nil)) (.cons x3 (.cons (.bl false) (.cons (.int 0) .nil)))))
      have fs : Fine 1 (eW ["s"]) ∧ slim (eW ["s"]) = true := ⟨fine_words (lone_good.lows lone_sets), slim_words (by show 1 ≤ 1000; decide)⟩
      have ft : Fine 1 (eW ["t"]) ∧ slim (eW ["t"]) = true := ⟨fine_words (lone_good.lows lone_sett), slim_words (by show 1 ≤ 1000; decide)⟩
      have fin : Fine 60 (.list [.list [eW ["t"]], .list [.int 1], eW ["s"], .bool false, .int 0]) ∧ slim (.list [.list [eW ["t"]], .list [.int 1], eW ["s"], .bool false, .int 0]) = true ∧ (PyData.list [.list [eW ["t"]], .list [.int 1], eW ["s"], .bool false, .int 0]).depth < 8 := fine_few (n := 2) (fun x hx => by
        simp only [List.mem_cons, List.not_mem_nil, or_false] at hx
        rcases hx with rfl | rfl | rfl | rfl | rfl
        · exact ⟨fine_lst (n := 1) fun y hy => by rw [List.mem_singleton.mp hy]; exact ft.1, slim_list.mpr ⟨by show 1 ≤ 1000; decide, fun y hy => by rw [List.mem_singleton.mp hy]; exact ft.2⟩⟩
        · exact ⟨fine_lst (n := 1) fun y hy => by rw [List.mem_singleton.mp hy]; exact fine_int.mono (by decide), slim_list.mpr ⟨by show 1 ≤ 1000; decide, fun y hy => by rw [List.mem_singleton.mp hy]; rfl⟩⟩
        · exact ⟨fs.1.mono (by decide), fs.2⟩
        · exact ⟨fine_bl.mono (by decide), rfl⟩
        · exact ⟨fine_int.mono (by decide), rfl⟩) (by decide) (by show 5 ≤ 1000; decide)
      refine ⟨[], _, _, True, rfl, Live.nil, exact_data lhs rhs fin, fun bb H18 hbb k18 => ?_⟩
      rw [hbb.mpr True.intro]
      exact k _
end
end K41
namespace K41
open PySem PySem.Spec PyProof.Rows L2
theorem hfacts {P : Program} {w : World} {K : PySem.W.Frag} {h : Heap} {mg : Str → Option Value} {f : Addr} (X : K.In h) (G : h.Ns mainGlobals mg) (hfa : mg ("law" : Str) = some (.ref f)) (c : He.SaysE hFa hFn K) (e : hEx K = true) :
    ∃ fd : FuncData, (∀ (s : Shared) (v : Value), BindsTo s fd ⟨[v], []⟩ [("_law_script", v)]) ∧ ∀ base : Heap, K.In base → base.Ns mainGlobals mg → FnOk P w K mg base CX0 10 f fd ["_law_script"] (spLaw K) := by
  have Y := mk_env X G c e
  obtain ⟨f', fd, F, hm⟩ := Y.t_law.ex
  have e' := hfa.symm.trans hm
  cases e'
  refine ⟨fd, fun s v => ?_, fun base _ _ => ok_law Y F⟩
  obtain ⟨oc, od, kV, doc, pm, an, cdv, ct, osl, rfl, lk, hcd⟩ := F.ex
  exact .of_eq rfl
end K41
open PySem PySem.W PySem.Calls PyProof.Rows
set_option maxRecDepth 100000 in
set_option maxHeartbeats 0 in
theorem PySem.Challenge.cw_oddlamps_k41_whole_classes_layers_and_fa_holds : PySem.Challenge.rw_oddlamps_k41_whole_classes_layers_and_fa.Holds := by
  w_on; o_law
  refine HandSHeadRun.head_any (r := OpenLaw.row PySem.Challenge.rw_oddlamps_k41_whole_classes_layers_and_fa) (q := view (OpenLaw.row PySem.Challenge.rw_oddlamps_k41_whole_classes_layers_and_fa).prog [72]) (H := K41.hk) (ob := K41.hob) (M := 6000) (loose := K41.hNm) (d := HandSHeadRun.topDef (OpenLaw.row PySem.Challenge.rw_oddlamps_k41_whole_classes_layers_and_fa).prog 72) (kwd := []) K41.hob_eq
    (by kernel_rfl) (fun s => by kernel_rfl) K41.hrun (by kernel_rfl) (by kernel_rfl) (by kernel_rfl) (by rfl) (by first | assumption | decide +kernel) (by decide +kernel) ⟨rfl, rfl, rfl, rfl, rfl, by decide +kernel⟩ ?hw ?hc
  case hw => w_witness2
  case hc =>
    refine L2.walk_ofE (l := PySem.Challenge.rw_oddlamps_k41_whole_classes_layers_and_fa) (n := 63) (k := 10) (x := "_law_script") (CX := L2.CX0) rfl (by decide) (by kernel_rfl) ⟨rfl, by decide, by decide⟩ ?F (fun _ _ _ _ z => z)
    intro w mg fa h Y G hmg0
    obtain ⟨K, KX, c, e⟩ := Y
    have hmg : mg ("law" : PySem.Str) = some (.ref fa) := by
      have e : (HandSHeadRun.topDef (OpenLaw.row PySem.Challenge.rw_oddlamps_k41_whole_classes_layers_and_fa).prog 72).name = ("law" : PySem.Str) := by kernel_rfl
      rw [← e]
      exact hmg0
    obtain ⟨fd, hb, hF⟩ := K41.hfacts (P := (PySem.Challenge.rw_oddlamps_k41_whole_classes_layers_and_fa).prog) (w := w) KX G hmg c e
    exact ⟨K, fd, K41.spLaw K, KX, hb, fun H a ns hl _ hS => ⟨a, ns, rfl, hS, fun _ => rfl⟩, hF⟩
#print axioms PySem.Challenge.cw_oddlamps_k41_whole_classes_layers_and_fa_holds
