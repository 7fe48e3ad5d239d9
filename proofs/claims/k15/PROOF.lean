import PyProof.Rows.All
import Wide.All
import OpenK.AllK
import Wide.FinOn
import HandS.ForMost
import HandS.ForExc
import HandS.Wide
import HandS.NoneIn
import HandS.IsInst
import HandS.ExcIs
import HandS.EndBits
import HandS.TryOnly
import HandS.Style
import HandS.ExcOwn
import HandS.More
import HandS.Deep
import HandS.SortInts
import HandS.Remove
import HandS.DictTup
import HandS.SetKeys
import PyProof.DictMoreH
import PyProof.Rows.TupTab
import KE.KDictWalk
import KE.SortData
import KE.KDictCopyH
import KE.DataFind
import HandS.Set
import HandS.TupSets
import PyProof.MeetsSeq2
import HandS.SetFor
import HandS.SetBool
import PySem.Challenge.RW_solidyard_k15_words_of_rows
set_option Elab.async false
set_option linter.all false
set_option maxRecDepth 100000
set_option maxHeartbeats 4000000
set_option exponentiation.threshold 20000

/-! dicts whose keys are objects: by their entries -/
namespace SY
open PySem PySem.Spec PyProof.Rows L2
section
variable {K : Type} [DecidableEq K]
def ent (hs : K → Int) (x : K × Addr × Value) : DictEntry := ⟨hs x.1, .ref x.2.1, x.2.2⟩
/-- the dict at a, by its entries -/
def dicO (a : Addr) (es : Array DictEntry) (ep : Nat) : HO := .ext fun h => DT.Raw h a es ep ∧ (a == sysModules) = false
/-- a kind of keys: its hash, and which key is at an address -/
structure Dk (K : Type) where
  hs : K → Int
  kr : PySem.W.Frag → Hp → Addr → K → Prop
structure DkOk (dk : Dk K) (X : Cx) where
  knd : HeapKind X.prog X.w K
  hash : knd.hash = dk.hs
  is : ∀ {pins : List (Addr × Obj)} {σ : L2.St} {H : Hp} {s : Shared} {a : Addr} {k : K}, Inv X pins σ H s → dk.kr X.K H a k → knd.is s.heap k a
abbrev Xs (K : Type) := List (K × Addr × V)
def EnR (p : K × Addr × V) (q : K × Addr × Value) : Prop := p.1 = q.1 ∧ p.2.1 = q.2.1 ∧ RelV p.2.2 q.2.2
def DicE (dk : Dk K) (Kf : PySem.W.Frag) (H : Hp) (es : Array DictEntry) (xs : Xs K) : Prop :=
  ∃ us : List (K × Addr × Value), Paired EnR xs us ∧ es.toList = us.map (ent dk.hs) ∧ (∀ x ∈ xs, dk.kr Kf H x.2.1 x.1) ∧ (xs.map (·.1)).Nodup ∧ xs.length ≤ sizeLine
def DicAt (dk : Dk K) (Kf : PySem.W.Frag) (H : Hp) (a : Addr) (xs : Xs K) : Prop := ∃ es ep, H a = some (dicO a es ep) ∧ DicE dk Kf H es xs
def valK (xs : Xs K) (k : K) : Option V := (xs.find? fun x => decide (x.1 = k)).map (·.2.2)
def setV (k : K) (v : V) (x : K × Addr × V) : K × Addr × V := if x.1 = k then (x.1, x.2.1, v) else x
def putV (xs : Xs K) (k : K) (b : Addr) (v : V) : Xs K := if (valK xs k).isSome = true then xs.map (setV k v) else xs ++ [(k, b, v)]
def dropV (xs : Xs K) (k : K) : Xs K := xs.filter fun x => decide (x.1 ≠ k)
theorem paired_keys {xs : Xs K} {us : List (K × Addr × Value)} (r : Paired EnR xs us) : us.map (·.1) = xs.map (·.1) := by
  induction r with
  | nil => rfl
  | cons h _ ih => simp only [List.map_cons]; rw [ih, h.1]
theorem DicAt.heap {dk : Dk K} {X : Cx} (ok : DkOk dk X) {pins : List (Addr × Obj)} {σ : L2.St} {H : Hp} {s : Shared} {a : Addr} {xs : Xs K} (I : Inv X pins σ H s) (h : DicAt dk X.K H a xs) :
    ∃ us, Paired EnR xs us ∧ s.heap.DictOfH ok.knd a us ∧ (a == sysModules) = false ∧ us.length ≤ sizeLine := by
  obtain ⟨es, ep, ha, us, pr, he, hk, hn, hz⟩ := h
  obtain ⟨⟨⟨o, h1, h2, h3⟩, h4⟩, _⟩ := I.hok a _ ha
  refine ⟨us, pr, ⟨o, es, ep, h1, h2, h3, ?_, fun x hx => ?_, ?_⟩, h4, by rw [← Paired.length pr]; exact hz⟩
  · rw [he]
    refine List.map_congr_left fun x _ => ?_
    unfold ent entryOfKey
    rw [ok.hash]
  · obtain ⟨j, hj⟩ := List.mem_iff_getElem?.mp hx
    obtain ⟨y, hy, hr⟩ := L2.DX.pget pr hj
    have := ok.is I (hk y (List.mem_of_getElem? hy))
    rw [hr.1, hr.2.1] at this
    exact this
  · rw [paired_keys pr]; exact hn
/-- a dict, whatever its keys -/
def IsDic (H : Hp) (a : Addr) : Prop := ∃ es ep, H a = some (dicO a es ep)
/-- what stays of the keys when a dict is changed -/
structure DkSt (dk : Dk K) : Prop where
  up : ∀ {Kf : PySem.W.Frag} {H : Hp} {a b : Addr} {k : K} {es : Array DictEntry} {ep : Nat} {o : HO}, H a = some (dicO a es ep) → dk.kr Kf H b k → dk.kr Kf (upd H a o) b k
section
variable {dk : Dk K} {X : Cx} (ok : DkOk dk X) {pins : List (Addr × Obj)} {σ : L2.St} {H : Hp} {s : Shared} {a b : Addr} {xs : Xs K} {k : K} {A : Around} {E : Value → Shared → Prop} {v : V} {r : Value}
include ok
end
end
end SY

namespace SY
open PySem PySem.Spec PyProof.Rows L2
/-! ### keys that are tuples of numbers -/
def hash1 (ns : List Int) : Int := reduceHash (Builtin.Tuple.tupleHashOf (ns.map hashInt))
def dk1 : Dk (List Int) := ⟨hash1, fun Kf H a ns => SqT Kf H a (ns.map V.int)⟩
theorem items_ints {P : Program} {w : World} : ∀ {ns : List Int} {us : List Value}, Vals (ns.map V.int) us → ItemsAre (PySem.intKind P w) ns us
  | [], _, h => by cases h; exact .nil
  | n :: ns, _, h => by
    cases h with
    | cons h1 h2 =>
      obtain ⟨t, rfl⟩ := h1
      exact .cons (by show Value.isInt n (.int n t) = true; simp [Value.isInt]) (items_ints h2)
theorem key1_of {X : Cx} {pins : List (Addr × Obj)} {σ : L2.St} {H : Hp} {s : Shared} {a : Addr} {ns : List Int} (I : Inv X pins σ H s) (h : SqT X.K H a (ns.map V.int)) : IsTupleKey (PySem.intKind X.prog X.w) s.heap ns a := by
  obtain ⟨its, hv, ⟨o, h1, h2, n, h3⟩, _⟩ := I.tuple h
  exact ⟨o, _, n, h1, h2, h3, by rw [List.toList_toArray]; exact items_ints hv⟩
def dk1_ok (X : Cx) : DkOk dk1 X where
  knd := tupleKind (PySem.intKind X.prog X.w)
  hash := rfl
  is := fun I h => key1_of I h
/-! ### keys that are tuples of such tuples -/
section
variable {P : Program} {w : World}
abbrev iK (P : Program) (w : World) := PySem.intKind P w
def KeyRef (P : Program) (w : World) (h : Heap) (v : Value) (ns : List Int) : Prop := ∃ q, v = .ref q ∧ IsTupleKey (iK P w) h ns q
def Is2 (P : Program) (w : World) (h : Heap) (kss : List (List Int)) (a : Addr) : Prop := ∃ o items n, h.get? a = some o ∧ o.cls = .type "tuple" ∧ o.data = .seq items n ∧ Paired (fun ns v => KeyRef P w h v ns) kss items.toList
theorem Is2.typeIs {s : Shared} {kss : List (List Int)} {a : Addr} (x : Is2 P w s.heap kss a) : s.TypeIs (.ref a) "tuple" := let ⟨o, _, _, ho, hc, _⟩ := x; ⟨o, ho, hc⟩
theorem p2_inj {h : Heap} : ∀ {x y : List (List Int)} {vs : List Value}, Paired (fun ns v => KeyRef P w h v ns) x vs → Paired (fun ns v => KeyRef P w h v ns) y vs → x = y
  | [], _, _, .nil, .nil => rfl
  | _, _, _, .cons r t, .cons r' t' => by
    obtain ⟨q, rfl, hq⟩ := r
    obtain ⟨q', e, hq'⟩ := r'
    cases e
    rw [hq.inj hq', p2_inj t t']
theorem Is2.inj {h : Heap} {a : Addr} {x y : List (List Int)} (hx : Is2 P w h x a) (hy : Is2 P w h y a) : x = y := by
  obtain ⟨o, items, n, ho, _, hd, hi⟩ := hx
  obtain ⟨o', items', n', ho', _, hd', hi'⟩ := hy
  obtain rfl : o = o' := Option.some.inj (ho.symm.trans ho')
  rw [hd] at hd'
  injection hd' with h1 _
  subst h1
  exact p2_inj hi hi'
theorem paired_mono {α β : Type} {F G : α → β → Prop} (i : ∀ a b, F a b → G a b) : ∀ {l : List α} {m : List β}, Paired F l m → Paired G l m
  | _, _, .nil => .nil
  | _, _, .cons r t => .cons (i _ _ r) (paired_mono i t)
theorem Is2.keeps {h h' : Heap} {kss : List (List Int)} {a d : Addr} {o : Obj} {es ep} (x : Is2 P w h kss a) (ho : h.get? d = some o) (hd : o.data = .dict es ep) (hs : Heap.SameBut d h h') : Is2 P w h' kss a := by
  obtain ⟨o', items, n, ho', hc, hd', hi⟩ := x
  have hne : a ≠ d := by
    rintro rfl
    obtain rfl : o' = o := Option.some.inj (ho'.symm.trans ho)
    rw [hd] at hd'; exact nomatch hd'
  exact ⟨o', items, n, (hs.2 a hne).trans ho', hc, hd', paired_mono (fun ns v ⟨q, e, k⟩ => ⟨q, e, k.keeps ho hd hs⟩) hi⟩
def hash2 (kss : List (List Int)) : Int := reduceHash (Builtin.Tuple.tupleHashOf (kss.map hash1))
def draws2 (kss : List (List Int)) : Nat := (kss.map fun ns => ns.length + 1).sum + 1
variable {A : Around} {E : Value → Shared → Prop} {s : Shared}
theorem pyHash2 {kss : List (List Int)} {a : Addr} {Q : Int → Shared → Prop} (hu : A.units + 1 < cLine) (hk : Is2 P w s.heap kss a) (h : Q (hash2 kss) { s with toks := s.toks + draws2 kss }) :
    wpAny (model P w) A (pyHash (.ref a)) Q E s := by
  have hT := hk.typeIs
  obtain ⟨o, items, n, ho, _, hd, hi⟩ := hk
  have hu0 : A.units < cLine := by omega
  unfold pyHash
  first | unfold pyHashByItsType | skip
  first | refine wpAny_bind (wpAny_cRoomFor_or (.inr hu0) ?_) | skip
  refine wpAny_bind (wpAny_specialOf hT F.slot_tuple_hash.lookup ?_)
  show wpAny _ _ (if (some (Value.builtin "tuple.__hash__") == some Value.none) = true then _ else _) Q E s
  rw [if_neg (by rw [beq_builtin_none]; exact Bool.false_ne_true)]
  refine wpAny_bind (wpAny_specialOf hT F.slot_tuple_hash.lookup ?_)
  show wpAny _ _ (callSpecialIfBoundUnlessNone? (.ref a) "__hash__" _ >>= _) Q E s
  refine wpAny_bind (wpAny_callSpecialIfBoundUnlessNone?_slot hT F.slot_tuple_hash (wpAny_call_entry F.slot_tuple_hash hT F.entry_tuple_hash ?_ (F.args_tuple_hash_1 _)))
  show wpAny _ _ (Builtin.Tuple.tupleItemsOf (.ref a) >>= _) _ _ s
  refine wpAny_bind (wpAny_tupleItemsOf ho hd ?_)
  refine wpAny_bind ?_
  rw [← Array.forIn_toList]
  refine wpAny_forIn_list _
    (fun rest (b : Array Int) s' => ∃ done left, kss = done ++ left ∧ Paired (fun ns v => KeyRef P w s.heap v ns) left rest ∧ b.toList = done.map hash1 ∧ s' = { s with toks := s.toks + (done.map fun ns => ns.length + 1).sum })
    _ ?_ ?_ _ _ ⟨[], kss, rfl, hi, rfl, rfl⟩
  · rintro x rest b s' ⟨done, left, rfl, hl, hb, rfl⟩
    cases hl with
    | @cons k _ ks' _ h1 hl' =>
      obtain ⟨q, rfl, hq⟩ := h1
      refine wpAny_bind (wpAny_pyHash_tuple (ks := k) (by show A.units + 1 < cLine; exact hu) hq ?_)
      first
        | exact wpAny_pure ⟨done ++ [k], ks', by simp, hl', by simp [hb]; rfl, by simp [Nat.add_assoc]⟩
        | exact wpAny_bind (wpAny_pure (wpAny_pure ⟨done ++ [k], ks', by simp, hl', by simp [hb]; rfl, by simp [Nat.add_assoc]⟩))
  · rintro b s' ⟨done, left, rfl, hl, hb, rfl⟩
    cases hl
    rw [List.append_nil] at h
    show wpAny _ _ (retInt (Builtin.Tuple.tupleHashOf b.toList)) _ _ _
    rw [hb]
    refine wpAny_ret_mkInt ?_
    show wpAny _ _ (if (decide (-(2 : Int) ^ 63 ≤ Builtin.Tuple.tupleHashOf (done.map hash1)) && decide (Builtin.Tuple.tupleHashOf (done.map hash1) < 2 ^ 63)) = true then _ else _) Q E _
    unfold hash2 reduceHash draws2 at h
    by_cases hr : (decide (-(2 : Int) ^ 63 ≤ Builtin.Tuple.tupleHashOf (done.map hash1)) && decide (Builtin.Tuple.tupleHashOf (done.map hash1) < 2 ^ 63)) = true
    · rw [if_pos hr]
      rw [if_pos hr] at h
      exact wpAny_pure (by simpa [Nat.add_assoc] using h)
    · rw [if_neg hr]
      rw [if_neg hr] at h
      exact wpAny_bind (wpAny_rule (wpAny_pure (by simpa [Nat.add_assoc] using h)))
theorem eqTree2 {x y : List (List Int)} {a b : Addr} {Pf : Fin → Shared → Prop} (hu : A.units < cLine) (hx : Is2 P w s.heap x a) (hy : Is2 P w s.heap y b) (h : Pf (.done (.ret (.bool (decide (x = y))))) s) :
    wpAny (model P w) A (Builtin.«tuple.__eq__» ⟨[.ref a, .ref b], []⟩) Pf E s := by
  have hTb := hy.typeIs
  obtain ⟨oa, xs, na, hoa, _, hda, hia⟩ := hx
  obtain ⟨ob, ys, nb, hob, _, hdb, hib⟩ := hy
  show wpAny _ _ (isInstance (.ref b) (.type "tuple") >>= _) _ _ s
  refine wpAny_bind (wpAny_isInstance hTb isSubtype_tuple_tuple ?_)
  simp only [Bool.not_true, Bool.false_eq_true, if_false]
  refine wpAny_bind (wpAny_tupleItemsOf hoa hda ?_)
  refine wpAny_bind (wpAny_tupleItemsOf hob hdb ?_)
  refine wpAny_bind ?_
  refine wpAny_forIn_list _
    (fun rest r s' => r.1 = none ∧ s' = s ∧ ∃ x' y' xs' ys', rest = List.zip xs' ys' ∧ Paired (fun ns v => KeyRef P w s.heap v ns) x' xs' ∧ Paired (fun ns v => KeyRef P w s.heap v ns) y' ys' ∧ decide (x' = y') = decide (x = y) ∧ (xs'.length == ys'.length) = (xs.size == ys.size))
    _ ?_ ?_ _ _ ⟨rfl, rfl, x, y, xs.toList, ys.toList, rfl, hia, hib, rfl, by simp⟩
  · rintro ⟨u, v⟩ rest r s' ⟨hr, rfl, x', y', xs', ys', hz, hx', hy', hdec, hlen⟩
    cases hx' with
    | nil => simp at hz
    | @cons k1 u' x'' xs'' h1 hx'' =>
      cases hy' with
      | nil => simp at hz
      | @cons k2 v' y'' ys'' h2 hy'' =>
        simp only [List.zip_cons_cons, List.cons.injEq, Prod.mk.injEq] at hz
        obtain ⟨⟨rfl, rfl⟩, rfl⟩ := hz
        obtain ⟨q1, rfl, hq1⟩ := h1
        obtain ⟨q2, rfl, hq2⟩ := h2
        refine wpAny_bind (wpAny_eqBool_tuple hu hq1 hq2 ?_)
        by_cases hk : k1 = k2
        · subst hk
          rw [decide_eq_true rfl]
          simp only [Bool.not_true, Bool.false_eq_true, if_false]
          refine wpAny_pure ⟨rfl, rfl, x'', y'', xs'', ys'', rfl, hx'', hy'', ?_, by simpa using hlen⟩
          rw [← hdec]
          by_cases hxy : x'' = y''
          · simp [hxy]
          · simp [hxy]
        · rw [decide_eq_false hk]
          simp only [Bool.not_false, if_true]
          have hf : decide (x = y) = false := by rw [← hdec]; simp [hk]
          rw [hf] at h
          exact wpAny_bind (wpAny_pure (wpAny_pure (wpAny_pure h)))
  · rintro ⟨r1, r2⟩ s' ⟨hr, rfl, x', y', xs', ys', hz, hx', hy', hdec, hlen⟩
    simp only at hr
    subst hr
    refine wpAny_pure ?_
    have hfin : (xs.size == ys.size) = decide (x = y) := by
      rw [← hdec, ← hlen]
      cases hx' with
      | nil =>
        cases hy' with
        | nil => simp
        | cons _ _ => simp
      | cons _ _ =>
        cases hy' with
        | nil => simp
        | cons _ _ => simp at hz
    show Pf (.done (.ret (.bool (xs.size == ys.size)))) s'
    rw [hfin]; exact h
theorem eqBool2 {x y : List (List Int)} {a b : Addr} {Q : Bool → Shared → Prop} (hu : A.units + 2 < cLine) (hx : Is2 P w s.heap x a) (hy : Is2 P w s.heap y b) (h : Q (decide (x = y)) s) :
    wpAny (model P w) A (eqBool (.ref a) (.ref b)) Q E s := by
  unfold eqBool
  try with_reducible refine wpAny_holding ?_
  show wpAny _ _ (if (Value.ref a == Value.ref b) = true then _ else _) Q E s
  by_cases hab : (Value.ref a == Value.ref b) = true
  · rw [if_pos hab]
    have e : a = b := by have := eq_of_beq hab; injection this
    subst e
    obtain rfl := hx.inj hy
    exact wpAny_bind (wpAny_rule (wpAny_pure (by simpa using h)))
  · rw [if_neg hab]
    exact wpAny_bind (wpAny_richCompare_same_room (op := .Eq) hx.typeIs hy.typeIs F.slot_tuple_eq
      (wpAny_call_entry F.slot_tuple_eq hx.typeIs F.entry_tuple_eq (eqTree2 (by first | (show A.units + 2 < cLine; exact hu) | (show A.units + 1 < cLine; omega) | (show A.units < cLine; omega)) hx hy ⟨_, rfl, (fun e => nomatch e), wpAny_truthy_bool h⟩) (F.args_tuple_eq_2 _ _)) (by omega))
theorem quiet1 (n : Nat) {ks : List Int} {a : Addr} {Q : Bool → Shared → Prop} (hk : IsTupleKey (iK P w) s.heap ks a) (h : Q true s) : wpAny (model P w) A (eqIsQuiet (n + 1) (.ref a)) Q E s := by
  have hT := hk.typeIs
  obtain ⟨o, items, n, ho, _, hd, hi⟩ := hk
  unfold eqIsQuiet
  refine wpAny_bind (wpAny_specialOf hT F.slot_tuple_eq.lookup ?_)
  show wpAny _ _ (isInstance (.ref a) (.type "tuple") >>= _) _ _ s
  refine wpAny_bind (wpAny_isInstance hT isSubtype_tuple_tuple ?_)
  simp only [Bool.not_true, Bool.false_eq_true, if_false]
  refine wpAny_bind (wpAny_seqItems ho hd ?_)
  refine wpAny_bind ?_
  show wpAny _ _ (forIn items _ _) _ _ s
  rw [← Array.forIn_toList]
  refine wpAny_forIn_list _ (fun rest r s' => r.1 = none ∧ s' = s ∧ ∀ v ∈ rest, carriedByValue v = true) _ ?_ ?_ _ _ ⟨rfl, rfl, hi.byValue⟩
  · rintro v rest r s' ⟨hr, rfl, hall⟩
    rw [eqIsQuiet_byValue _ (hall v List.mem_cons_self)]
    refine wpAny_bind (wpAny_pure ?_)
    simp only [Bool.not_true, Bool.false_eq_true, if_false]
    exact wpAny_pure ⟨rfl, rfl, fun u hu' => hall u (List.mem_cons_of_mem _ hu')⟩
  · rintro ⟨r1, r2⟩ s' ⟨hr, rfl, _⟩
    simp only at hr
    subst hr
    exact wpAny_pure h
theorem quiet2 {kss : List (List Int)} {a : Addr} {Q : Bool → Shared → Prop} (hk : Is2 P w s.heap kss a) (h : Q true s) : wpAny (model P w) A (eqIsQuiet 8 (.ref a)) Q E s := by
  have hT := hk.typeIs
  obtain ⟨o, items, n, ho, _, hd, hi⟩ := hk
  unfold eqIsQuiet
  refine wpAny_bind (wpAny_specialOf hT F.slot_tuple_eq.lookup ?_)
  show wpAny _ _ (isInstance (.ref a) (.type "tuple") >>= _) _ _ s
  refine wpAny_bind (wpAny_isInstance hT isSubtype_tuple_tuple ?_)
  simp only [Bool.not_true, Bool.false_eq_true, if_false]
  refine wpAny_bind (wpAny_seqItems ho hd ?_)
  refine wpAny_bind ?_
  show wpAny _ _ (forIn items _ _) _ _ s
  rw [← Array.forIn_toList]
  refine wpAny_forIn_list _ (fun rest r s' => r.1 = none ∧ s' = s ∧ ∃ left, Paired (fun ns v => KeyRef P w s.heap v ns) left rest) _ ?_ ?_ _ _ ⟨rfl, rfl, kss, hi⟩
  · rintro v rest r s' ⟨hr, rfl, left, hl⟩
    cases hl with
    | @cons k _ ks' _ h1 hl' =>
      obtain ⟨q, rfl, hq⟩ := h1
      refine wpAny_bind (quiet1 6 hq ?_)
      simp only [Bool.not_true, Bool.false_eq_true, if_false]
      exact wpAny_pure ⟨rfl, rfl, ks', hl'⟩
  · rintro ⟨r1, r2⟩ s' ⟨hr, rfl, _⟩
    simp only at hr
    subst hr
    exact wpAny_pure h
def kind2 (P : Program) (w : World) : HeapKind P w (List (List Int)) where
  is := Is2 P w
  hash := hash2
  draws := draws2
  room := fun A => A.units + 2 < cLine
  inj := fun hx hy => hx.inj hy
  keeps := fun x ho hd hs => x.keeps ho hd hs
  pyHash := fun hu hk h => pyHash2 (by omega) hk h
  eqBool := fun hu hx hy h => eqBool2 hu hx hy h
  quiet := fun hk h => quiet2 hk h
end
def dk2 : Dk (List (List Int)) := ⟨hash2, fun Kf H a kss => ∃ qs : List Addr, SqT Kf H a (qs.map V.ref) ∧ Paired (fun ns q => SqT Kf H q (ns.map V.int)) kss qs⟩
theorem key2_of {X : Cx} {pins : List (Addr × Obj)} {σ : L2.St} {H : Hp} {s : Shared} {a : Addr} {kss : List (List Int)} (I : Inv X pins σ H s) (h : dk2.kr X.K H a kss) : Is2 X.prog X.w s.heap kss a := by
  obtain ⟨qs, h1, h2⟩ := h
  obtain ⟨its, hv, ⟨o, g1, g2, n, g3⟩, _⟩ := I.tuple h1
  refine ⟨o, _, n, g1, g2, g3, ?_⟩
  rw [List.toList_toArray]
  have : ∀ {qs : List Addr} {its : List Value} {kss : List (List Int)}, Vals (qs.map V.ref) its → Paired (fun ns q => SqT X.K H q (ns.map V.int)) kss qs → Paired (fun ns v => KeyRef X.prog X.w s.heap v ns) kss its := by
    intro qs its kss hv hp
    induction hp generalizing its with
    | nil => cases hv; exact .nil
    | cons r t ih =>
      cases hv with
      | cons v1 v2 =>
        obtain rfl := (show _ = Value.ref _ from v1)
        exact .cons ⟨_, rfl, key1_of I r⟩ (ih v2)
  exact this hv h2
def dk2_ok (X : Cx) : DkOk dk2 X where
  knd := kind2 X.prog X.w
  hash := rfl
  is := fun I h => key2_of I h
end SY

namespace SY
open PySem PySem.Spec PyProof.Rows L2
section
variable {K : Type} [DecidableEq K] {dk : Dk K} {X : Cx} {o i e f value : Expr} {pos pos' tpos apos cpos : Pos} {td ty tv tx : TE}
/-- {} -/
def tDNewX : TE := fun _ H Q => ∀ p, H p = none → Q (.ref p) (upd H p (dicO p #[] 0))
/-- d[y], y in d, y not in d -/
def rDGetX (dk : Dk K) (Kf : PySem.W.Frag) : R2 := fun x y H Q => ∃ a b xs k v, x = .ref a ∧ y = .ref b ∧ DicAt dk Kf H a xs ∧ dk.kr Kf H b k ∧ valK xs k = some v ∧ Q v H
def rDInX (dk : Dk K) (Kf : PySem.W.Frag) : R2 := fun y x H Q => ∃ a b xs k, x = .ref a ∧ y = .ref b ∧ DicAt dk Kf H a xs ∧ dk.kr Kf H b k ∧ Q (.bl (valK xs k).isSome) H
def rDNotInX (dk : Dk K) (Kf : PySem.W.Frag) : R2 := fun y x H Q => ∃ a b xs k, x = .ref a ∧ y = .ref b ∧ DicAt dk Kf H a xs ∧ dk.kr Kf H b k ∧ Q (.bl (!(valK xs k).isSome)) H
/-- d[y] = v -/
def sDPutX (dk : Dk K) (Kf : PySem.W.Frag) (td ty tv : TE) : TS := fun D σ H => tv σ H fun v H1 => td σ H1 fun x H2 => ty σ H2 fun y H3 => ∃ a b xs k, x = .ref a ∧ y = .ref b ∧ DicAt dk Kf H3 a xs ∧ dk.kr Kf H3 b k ∧ xs.length < sizeLine ∧
  ∀ es ep, DicE dk Kf (upd H3 a (dicO a es ep)) es (putV xs k b v) → D.nx σ (upd H3 a (dicO a es ep))
/-- d.pop(y) -/
def tDPopX (dk : Dk K) (Kf : PySem.W.Frag) (td ty : TE) : TE := fun σ H Q => td σ H fun x H1 => ∃ a, x = .ref a ∧ IsDic H1 a ∧ ty σ H1 fun y H2 => ∃ b xs k v, y = .ref b ∧ DicAt dk Kf H2 a xs ∧ dk.kr Kf H2 b k ∧ valK xs k = some v ∧
  ∀ es ep, DicE dk Kf (upd H2 a (dicO a es ep)) es (dropV xs k) → Q v (upd H2 a (dicO a es ep))
/-- d.setdefault(y, z) -/
def tDSetdX (dk : Dk K) (Kf : PySem.W.Frag) (td ty tx : TE) : TE := fun σ H Q => td σ H fun x H1 => ∃ a, x = .ref a ∧ IsDic H1 a ∧ ty σ H1 fun y H2 => tx σ H2 fun z H3 => ∃ b xs k, y = .ref b ∧ DicAt dk Kf H3 a xs ∧ dk.kr Kf H3 b k ∧ xs.length < sizeLine ∧
  (∀ v, valK xs k = some v → Q v H3) ∧ (valK xs k = none → ∀ es ep, DicE dk Kf (upd H3 a (dicO a es ep)) es (putV xs k b z) → Q z (upd H3 a (dicO a es ep)))
end
/-! ### for over a dict that stays as it is -/
section
variable {K : Type} [DecidableEq K]
/-- entries and what they are -/
def EsX (hs : K → Int) (es : Array DictEntry) (xs : Xs K) : Prop := ∃ us : List (K × Addr × Value), Paired EnR xs us ∧ es.toList = us.map (ent hs)
theorem EsX.size {hs : K → Int} {es : Array DictEntry} {xs : Xs K} (h : EsX hs es xs) : es.size = xs.length := by
  obtain ⟨us, a, b⟩ := h
  rw [← Array.length_toList, b, List.length_map, Paired.length a]
theorem EsX.get {hs : K → Int} {es : Array DictEntry} {xs : Xs K} (h : EsX hs es xs) {i : Nat} {x : K × Addr × V} (e : xs[i]? = some x) : ∃ en, es[i]? = some en ∧ en.key = .ref x.2.1 ∧ RelV x.2.2 en.val := by
  obtain ⟨us, a, b⟩ := h
  obtain ⟨y, hy, r⟩ := paired_get a e
  refine ⟨ent hs y, ?_, ?_, r.2.2⟩
  · rw [← Array.getElem?_toList, b, List.getElem?_map, hy]; rfl
  · rw [r.2.1]; rfl
theorem Inv.dic {X : Cx} {pins : List (Addr × Obj)} {σ : L2.St} {H : Hp} {s : Shared} {d : Addr} {es : Array DictEntry} {ep : Nat} (I : Inv X pins σ H s) (h : H d = some (dicO d es ep)) : DT.Raw s.heap d es ep ∧ (d == sysModules) = false := (I.hok d _ h).1
def ItK (d : Addr) (es : Array DictEntry) (ep : Nat) (xs : Xs K) : It :=
  ⟨fun i H => H d = some (dicO d es ep) ∧ i < xs.length, fun i H x H' => H' = H ∧ ∃ y, xs[i]? = some y ∧ x = .ref y.2.1, fun i H => H d = some (dicO d es ep) ∧ xs.length ≤ i⟩
def ItV (d : Addr) (es : Array DictEntry) (ep : Nat) (xs : Xs K) : It :=
  ⟨fun i H => H d = some (dicO d es ep) ∧ i < xs.length, fun i H x H' => H' = H ∧ ∃ y, xs[i]? = some y ∧ x = y.2.2, fun i H => H d = some (dicO d es ep) ∧ xs.length ≤ i⟩
def ItI (d : Addr) (es : Array DictEntry) (ep : Nat) (xs : Xs K) : It :=
  ⟨fun i H => H d = some (dicO d es ep) ∧ i < xs.length, fun i H x H' => ∃ T y, xs[i]? = some y ∧ x = .ref T ∧ H T = none ∧ H' = upd H T (.tup [.ref y.2.1, y.2.2]), fun i H => H d = some (dicO d es ep) ∧ xs.length ≤ i⟩
variable {P : Program} {w : World} {Kf : PySem.W.Frag} {tg : Expr} {d : Addr} {es : Array DictEntry} {ep : Nat} {xs : Xs K} {hs : K → Int}
def iKX (hs : K → Int) (td : TE) : TI := fun σ H R => td σ H fun x H1 => ∃ d es ep, ∃ xs : Xs K, x = .ref d ∧ H1 d = some (dicO d es ep) ∧ EsX hs es xs ∧ R (ItK d es ep xs) H1
def iVX (hs : K → Int) (td : TE) : TI := fun σ H R => td σ H fun x H1 => ∃ d es ep, ∃ xs : Xs K, x = .ref d ∧ H1 d = some (dicO d es ep) ∧ EsX hs es xs ∧ R (ItV d es ep xs) H1
def iIX (hs : K → Int) (td : TE) : TI := fun σ H R => td σ H fun x H1 => ∃ d es ep, ∃ xs : Xs K, x = .ref d ∧ H1 d = some (dicO d es ep) ∧ EsX hs es xs ∧ R (ItI d es ep xs) H1
end
section
variable {K : Type} [DecidableEq K] {hs : K → Int} {X : Cx} {tg e : Expr} {td : TE} {apos cpos : Pos}
end
/-! ### what stays -/
theorem seqT_up {Kf : PySem.W.Frag} {G G' : Hp} {a : Addr} {xs : List V} (e : ∀ b o, G b = some o → G' b = some o) (h : SqT Kf G a xs) : SqT Kf G' a xs := by
  rcases h with (h | ⟨o, h⟩) | h
  · exact .inl (.inl (e _ _ h))
  · exact .inl (.inr ⟨o, e _ _ h⟩)
  · exact .inr h
theorem DicE.up1 {Kf : PySem.W.Frag} {G G' : Hp} {es : Array DictEntry} {xs : Xs (List Int)} (e : ∀ b o, G b = some o → G' b = some o) (h : DicE dk1 Kf G es xs) : DicE dk1 Kf G' es xs := by
  obtain ⟨us, a, b, c, d⟩ := h
  exact ⟨us, a, b, fun x hx => seqT_up e (c x hx), d⟩
theorem DicE.up2 {Kf : PySem.W.Frag} {G G' : Hp} {es : Array DictEntry} {xs : Xs (List (List Int))} (e : ∀ b o, G b = some o → G' b = some o) (h : DicE dk2 Kf G es xs) : DicE dk2 Kf G' es xs := by
  obtain ⟨us, a, b, c, d⟩ := h
  exact ⟨us, a, b, fun x hx => let ⟨qs, h1, h2⟩ := c x hx; ⟨qs, seqT_up e h1, paired_mono (fun _ _ h => seqT_up e h) h2⟩, d⟩
end SY

/-! The data layer: what a piece of the text does, told over data in the place of addresses. -/
namespace SY
open PySem PySem.Spec PyProof.Rows L2

/-- data; scr: the script; ptr: a thing that may be changed, at its address -/
inductive D where
  | non | bl (b : Bool) | int (i : Int) | str (s : Str) | tup (ds : List D) | lst (ds : List D) | scr (ns : List Int) | ptr (a : Addr)
  | dic (ks : List (List Int)) (ds : List D)

mutual
inductive Rp (K : PySem.W.Frag) (G : Hp) : V → D → Prop
  | non : Rp K G .non .non
  | bl (b : Bool) : Rp K G (.bl b) (.bl b)
  | int (i : Int) : Rp K G (.int i) (.int i)
  | str (s : Str) : Rp K G (.str s) (.str s)
  | tup {a : Addr} {xs : List V} {ds : List D} : SqT K G a xs → RpA K G xs ds → Rp K G (.ref a) (.tup ds)
  | lst {a : Addr} {xs : List V} {ds : List D} : G a = some (.lst xs) → RpA K G xs ds → Rp K G (.ref a) (.lst ds)
  | scr {a : Addr} {ns : List Int} : SqL K G a (ns.map V.int) → Rp K G (.ref a) (.scr ns)
  | ptr (a : Addr) : Rp K G (.ref a) (.ptr a)
  | dic {a : Addr} {es : Array DictEntry} {ep : Nat} {xs : Xs (List Int)} {ks : List (List Int)} {vs : List V} {ds : List D} : G a = some (dicO a es ep) → DicE dk1 K G es xs → ks = xs.map (·.1) → vs = xs.map (·.2.2) → RpA K G vs ds → Rp K G (.ref a) (.dic ks ds)
inductive RpA (K : PySem.W.Frag) (G : Hp) : List V → List D → Prop
  | nil : RpA K G [] []
  | cons {v : V} {vs : List V} {d : D} {ds : List D} : Rp K G v d → RpA K G vs ds → RpA K G (v :: vs) (d :: ds)
end

section
variable {K : PySem.W.Frag} {G G' H H' : Hp}
theorem Same.seqT {a : Addr} {xs : List V} (e : Same G G') (h : SqT K G a xs) : SqT K G' a xs := by
  rcases h with (h | ⟨o, h⟩) | h
  · exact .inl (.inl (e _ _ h))
  · exact .inl (.inr ⟨o, e _ _ h⟩)
  · exact .inr h
mutual
theorem Rp.mono (e : Same G G') : ∀ (d : D) (v : V), Rp K G v d → Rp K G' v d
  | .non, _, h => by cases h; exact .non
  | .bl b, _, h => by cases h; exact .bl _
  | .int i, _, h => by cases h; exact .int _
  | .str s, _, h => by cases h; exact .str _
  | .tup ds, _, h => by
    cases h with
    | tup h1 h2 => exact .tup (Same.seqT e h1) (RpA.mono e ds _ h2)
  | .lst ds, _, h => by
    cases h with
    | lst h1 h2 => exact .lst (e _ _ h1) (RpA.mono e ds _ h2)
  | .scr ns, _, h => by
    cases h with
    | scr h1 => exact .scr (e.seq h1)
  | .ptr a, _, h => by cases h; exact .ptr _
  | .dic ks ds, _, h => by
    cases h with
    | dic h1 h2 h3 h4 h5 => exact .dic (e _ _ h1) (h2.up1 e) h3 h4 (RpA.mono e ds _ h5)
theorem RpA.mono (e : Same G G') : ∀ (ds : List D) (vs : List V), RpA K G vs ds → RpA K G' vs ds
  | [], _, h => by cases h; exact .nil
  | d :: ds, _, h => by
    cases h with
    | cons h1 h2 => exact .cons (Rp.mono e d _ h1) (RpA.mono e ds _ h2)
end
theorem Rp.up {d : D} {v : V} (h : Rp K G v d) (e : Same G G') : Rp K G' v d := Rp.mono e d v h
theorem RpA.up {ds : List D} {vs : List V} (h : RpA K G vs ds) (e : Same G G') : RpA K G' vs ds := RpA.mono e ds vs h
theorem RpA.length : ∀ {ds : List D} {vs : List V}, RpA K G vs ds → vs.length = ds.length
  | [], _, h => by cases h; rfl
  | d :: ds, _, h => by
    cases h with
    | cons h1 h2 => simp [RpA.length h2]
theorem RpA.get : ∀ {ds : List D} {vs : List V} {i : Nat} {d : D}, RpA K G vs ds → ds[i]? = some d → ∃ v, vs[i]? = some v ∧ Rp K G v d
  | [], _, _, _, _, e => by simp at e
  | d :: ds, _, 0, _, h, e => by
    cases h with
    | cons h1 h2 => simp at e; subst e; exact ⟨_, rfl, h1⟩
  | d :: ds, _, i + 1, x, h, e => by
    cases h with
    | cons h1 h2 =>
      obtain ⟨u, q1, q2⟩ := RpA.get (i := i) (d := x) h2 (by simpa using e)
      exact ⟨u, by simpa using q1, q2⟩
theorem RpA.getV : ∀ {ds : List D} {vs : List V} {i : Nat} {v : V}, RpA K G vs ds → vs[i]? = some v → ∃ d, ds[i]? = some d ∧ Rp K G v d
  | [], _, _, _, h, e => by cases h; simp at e
  | d :: ds, _, 0, _, h, e => by
    cases h with
    | cons h1 h2 => simp at e; subst e; exact ⟨_, rfl, h1⟩
  | d :: ds, _, i + 1, x, h, e => by
    cases h with
    | cons h1 h2 =>
      obtain ⟨u, q1, q2⟩ := RpA.getV (i := i) (v := x) h2 (by simpa using e)
      exact ⟨u, by simpa using q1, q2⟩
theorem RpA.append : ∀ {ds es : List D} {vs us : List V}, RpA K G vs ds → RpA K G us es → RpA K G (vs ++ us) (ds ++ es)
  | [], _, _, _, h, q => by cases h; exact q
  | d :: ds, _, _, _, h, q => by
    cases h with
    | cons h1 h2 => exact .cons h1 (RpA.append h2 q)
theorem RpA.drop : ∀ (n : Nat) {ds : List D} {vs : List V}, RpA K G vs ds → RpA K G (vs.drop n) (ds.drop n)
  | 0, _, _, h => h
  | n + 1, [], _, h => by cases h; exact .nil
  | n + 1, d :: ds, _, h => by
    cases h with
    | cons h1 h2 => exact RpA.drop n h2
theorem RpA.take : ∀ (n : Nat) {ds : List D} {vs : List V}, RpA K G vs ds → RpA K G (vs.take n) (ds.take n)
  | 0, _, _, h => .nil
  | n + 1, [], _, h => by cases h; exact .nil
  | n + 1, d :: ds, _, h => by
    cases h with
    | cons h1 h2 => exact .cons h1 (RpA.take n h2)
theorem RpA.set {x : V} {e : D} (r : Rp K G x e) : ∀ {ds : List D} {vs : List V} (i : Nat), RpA K G vs ds → RpA K G (vs.set i x) (ds.set i e)
  | [], _, _, h => by cases h; exact .nil
  | d :: ds, _, 0, h => by
    cases h with
    | cons h1 h2 => exact .cons r h2
  | d :: ds, _, i + 1, h => by
    cases h with
    | cons h1 h2 => exact .cons h1 (RpA.set r i h2)
theorem RpA.eraseIdx : ∀ {ds : List D} {vs : List V} (i : Nat), RpA K G vs ds → RpA K G (vs.eraseIdx i) (ds.eraseIdx i)
  | [], _, _, h => by cases h; exact .nil
  | d :: ds, _, 0, h => by
    cases h with
    | cons h1 h2 => exact h2
  | d :: ds, _, i + 1, h => by
    cases h with
    | cons h1 h2 => exact .cons h1 (RpA.eraseIdx i h2)
theorem RpA.ints : ∀ (ns : List Int), RpA K G (ns.map V.int) (ns.map D.int)
  | [] => .nil
  | n :: ns => .cons (.int n) (RpA.ints ns)
theorem RpA.ints_inv : ∀ {ns : List Int} {vs : List V}, RpA K G vs (ns.map D.int) → vs = ns.map V.int
  | [], _, h => by cases h; rfl
  | n :: ns, _, h => by
    cases h with
    | cons h1 h2 =>
      cases h1
      rw [RpA.ints_inv h2]
      rfl
end

/-- a thing that may be changed: the law's row of draws (some list of at most 63 numbers, none below 0), or a list -/
inductive MO where
  | row
  | lst (ds : List D)
  | d1 (ks : List (List Int)) (ds : List D)
  | d2 (ks : List (List (List Int)))
abbrev Sto := Addr → Option MO
def updT (T : Sto) (a : Addr) (m : MO) : Sto := fun b => if b = a then some m else T b
def offT (T : Sto) (a : Addr) : Sto := fun b => if b = a then none else T b
theorem updT_same {T : Sto} {a : Addr} {m : MO} : updT T a m a = some m := by unfold updT; rw [if_pos rfl]
theorem updT_ne {T : Sto} {a b : Addr} {m : MO} (h : b ≠ a) : updT T a m b = T b := by unfold updT; rw [if_neg h]
theorem updT_updT {T : Sto} {a : Addr} {m n : MO} : updT (updT T a m) a n = updT T a n := by
  funext b; unfold updT; split <;> rfl
theorem updT_id {T : Sto} {a : Addr} {m : MO} (h : T a = some m) : updT T a m = T := by
  funext b; unfold updT; split
  · rename_i e; subst e; exact h.symm
  · rfl
theorem offT_updT {T : Sto} {a : Addr} {m : MO} (h : T a = none) : offT (updT T a m) a = T := by
  funext b; unfold offT updT; split
  · rename_i e; subst e; exact h.symm
  · rfl
def MOk (K : PySem.W.Frag) (G H : Hp) (a : Addr) : MO → Prop
  | .row => ∃ ns : List Int, H a = some (.lst (ns.map V.int)) ∧ (∀ n ∈ ns, 0 ≤ n) ∧ ns.length ≤ 63
  | .lst ds => ∃ vs : List V, H a = some (.lst vs) ∧ RpA K G vs ds
  | .d1 ks ds => ∃ (es : Array DictEntry) (ep : Nat) (xs : Xs (List Int)), H a = some (dicO a es ep) ∧ DicE dk1 K G es xs ∧ ks = xs.map (·.1) ∧ RpA K G (xs.map (·.2.2)) ds
  | .d2 ks => ∃ (es : Array DictEntry) (ep : Nat) (xs : Xs (List (List Int))), H a = some (dicO a es ep) ∧ DicE dk2 K G es xs ∧ ks = xs.map (·.1)
structure Ctx (K : PySem.W.Frag) (T : Sto) (G H : Hp) : Prop where
  sub : Same G H
  own : ∀ a m, T a = some m → G a = none ∧ MOk K G H a m
/-- from one state to a later one -/
structure Gro (K : PySem.W.Frag) (T : Sto) (G H : Hp) (T' : Sto) (G' H' : Hp) : Prop where
  ctx : Ctx K T' G' H'
  sub : Same G G'
  keep : ∀ a o, T a = none → H a = some o → H' a = some o
  fresh : ∀ a, (G' a ≠ none ∨ T' a ≠ none) → G a ≠ none ∨ T a ≠ none ∨ H a = none
section
variable {K : PySem.W.Frag} {T T1 T2 : Sto} {G G1 G2 H H1 H2 : Hp}
theorem MOk.there {a : Addr} {m : MO} (h : MOk K G H a m) : H a ≠ none := by
  cases m with
  | row => obtain ⟨ns, e, _⟩ := h; rw [e]; exact fun z => by cases z
  | lst ds => obtain ⟨vs, e, _⟩ := h; rw [e]; exact fun z => by cases z
  | d1 ks ds => obtain ⟨es, ep, xs, e, _⟩ := h; rw [e]; exact fun z => by cases z
  | d2 ks => obtain ⟨es, ep, xs, e, _⟩ := h; rw [e]; exact fun z => by cases z
theorem MOk.up {a : Addr} {m : MO} (h : MOk K G H a m) (s : Same G G1) (e : H1 a = H a) : MOk K G1 H1 a m := by
  cases m with
  | row => obtain ⟨ns, q, r⟩ := h; exact ⟨ns, e.trans q, r⟩
  | lst ds => obtain ⟨vs, q, r⟩ := h; exact ⟨vs, e.trans q, r.up s⟩
  | d1 ks ds => obtain ⟨es, ep, xs, q, r1, r2, r3⟩ := h; exact ⟨es, ep, xs, e.trans q, r1.up1 s, r2, r3.up s⟩
  | d2 ks => obtain ⟨es, ep, xs, q, r1, r2⟩ := h; exact ⟨es, ep, xs, e.trans q, r1.up2 s, r2⟩
theorem Gro.refl (c : Ctx K T G H) : Gro K T G H T G H := ⟨c, Same.refl _, fun _ _ _ h => h, fun _ h => h.elim .inl fun z => .inr (.inl z)⟩
theorem Gro.trans (a : Gro K T G H T1 G1 H1) (b : Gro K T1 G1 H1 T2 G2 H2) : Gro K T G H T2 G2 H2 := by
  refine ⟨b.ctx, a.sub.trans b.sub, fun x o ht hh => ?_, fun x hx => ?_⟩
  · refine b.keep x o ?_ (a.keep x o ht hh)
    cases q : T1 x with
    | none => rfl
    | some m =>
      have g1 := (a.ctx.own x m q).1
      rcases a.fresh x (.inr (by rw [q]; exact fun z => by cases z)) with h | h | h
      · cases q2 : G x with
        | none => exact absurd q2 h
        | some o2 => rw [a.sub x o2 q2] at g1; cases g1
      · exact absurd ht h
      · rw [h] at hh; cases hh
  · rcases b.fresh x hx with h | h | h
    · exact a.fresh x (.inl h)
    · exact a.fresh x (.inr h)
    · cases q : T x with
      | some m => exact .inr (.inl (by exact fun z => by cases z))
      | none =>
        cases q2 : H x with
        | none => exact .inr (.inr rfl)
        | some o => rw [a.keep x o q q2] at h; cases h
/-- a new thing that stays as it is -/
theorem Ctx.new (c : Ctx K T G H) {p : Addr} {o : HO} (n : H p = none) : Gro K T G H T (upd G p o) (upd H p o) := by
  have gp : G p = none := by
    cases q : G p with
    | none => rfl
    | some o2 => rw [c.sub p o2 q] at n; cases n
  have sg : Same G (upd G p o) := fun b x e => by
    rw [upd_ne (ne_of_none e gp)]
    exact e
  refine ⟨⟨fun b x e => ?_, fun a m e => ?_⟩, sg, fun a x _ e => ?_, fun a h => ?_⟩
  · by_cases hb : b = p
    · subst hb; rw [upd_same] at e ⊢; exact e
    · rw [upd_ne hb] at e ⊢; exact c.sub b x e
  · obtain ⟨g, m1⟩ := c.own a m e
    have ne : a ≠ p := fun z => by subst z; exact m1.there n
    refine ⟨by rw [upd_ne ne]; exact g, m1.up sg (by rw [upd_ne ne])⟩
  · rw [upd_ne (ne_of_none e n)]; exact e
  · by_cases hb : a = p
    · subst hb; exact .inr (.inr n)
    · rcases h with h | h
      · rw [upd_ne hb] at h; exact .inl h
      · exact .inr (.inl h)
/-- a new list that may be changed -/
theorem Ctx.newM (c : Ctx K T G H) {p : Addr} {vs : List V} {ds : List D} (n : H p = none) (r : RpA K G vs ds) : Gro K T G H (updT T p (.lst ds)) G (upd H p (.lst vs)) := by
  have gp : G p = none := by
    cases q : G p with
    | none => rfl
    | some o2 => rw [c.sub p o2 q] at n; cases n
  refine ⟨⟨fun b x e => ?_, fun a m e => ?_⟩, Same.refl _, fun a x _ e => ?_, fun a h => ?_⟩
  · rw [upd_ne (ne_of_none e gp)]; exact c.sub b x e
  · by_cases hb : a = p
    · subst hb
      rw [updT_same] at e
      cases e
      exact ⟨gp, vs, upd_same, r⟩
    · rw [updT_ne hb] at e
      obtain ⟨g, m1⟩ := c.own a m e
      exact ⟨g, m1.up (Same.refl _) (by rw [upd_ne hb])⟩
  · rw [upd_ne (ne_of_none e n)]; exact e
  · by_cases hb : a = p
    · subst hb; exact .inr (.inr n)
    · rcases h with h | h
      · exact .inl h
      · rw [updT_ne hb] at h; exact .inr (.inl h)
/-- a thing that is changed -/
theorem Ctx.put (c : Ctx K T G H) {p : Addr} {m : MO} {o : HO} {m' : MO} (t : T p = some m) (ok : MOk K G (upd H p o) p m') : Gro K T G H (updT T p m') G (upd H p o) := by
  have gp : G p = none := (c.own p m t).1
  refine ⟨⟨fun b x e => ?_, fun a m2 e => ?_⟩, Same.refl _, fun a x ht e => ?_, fun a h => ?_⟩
  · rw [upd_ne (ne_of_none e gp)]; exact c.sub b x e
  · by_cases hb : a = p
    · subst hb
      rw [updT_same] at e
      cases e
      exact ⟨gp, ok⟩
    · rw [updT_ne hb] at e
      obtain ⟨g, m1⟩ := c.own a m2 e
      exact ⟨g, m1.up (Same.refl _) (by rw [upd_ne hb])⟩
  · have hb : a ≠ p := fun z => by subst z; rw [t] at ht; cases ht
    rw [upd_ne hb]; exact e
  · by_cases hb : a = p
    · subst hb; exact .inr (.inl (by rw [t]; exact fun z => by cases z))
    · rcases h with h | h
      · exact .inl h
      · rw [updT_ne hb] at h; exact .inr (.inl h)
/-- what may be changed is changed no more -/
theorem Ctx.freeze (c : Ctx K T G H) {p : Addr} {ds : List D} (t : T p = some (.lst ds)) : ∃ G', Gro K T G H (offT T p) G' H ∧ Rp K G' (.ref p) (.lst ds) := by
  obtain ⟨gp, vs, hp, r⟩ := c.own p _ t
  have sg : Same G (upd G p (.lst vs)) := fun b x e => by
    rw [upd_ne (ne_of_none e gp)]
    exact e
  refine ⟨upd G p (.lst vs), ⟨⟨fun b x e => ?_, fun a m e => ?_⟩, sg, fun _ _ _ h => h, fun a h => ?_⟩, .lst upd_same (r.up sg)⟩
  · by_cases hb : b = p
    · subst hb; rw [upd_same] at e; rw [hp]; exact e
    · rw [upd_ne hb] at e; exact c.sub b x e
  · by_cases hb : a = p
    · subst hb; unfold offT at e; rw [if_pos rfl] at e; cases e
    · unfold offT at e; rw [if_neg hb] at e
      obtain ⟨g, m1⟩ := c.own a m e
      exact ⟨by rw [upd_ne hb]; exact g, m1.up sg rfl⟩
  · by_cases hb : a = p
    · subst hb; exact .inr (.inl (by rw [t]; exact fun z => by cases z))
    · rcases h with h | h
      · rw [upd_ne hb] at h; exact .inl h
      · unfold offT at h; rw [if_neg hb] at h; exact .inr (.inl h)
/-- less is told of what may be changed -/
theorem Ctx.less (c : Ctx K T G H) (h : ∀ a m, T1 a = some m → ∃ m0, T a = some m0 ∧ (MOk K G H a m0 → MOk K G H a m)) : Gro K T G H T1 G H := by
  refine ⟨⟨c.sub, fun a m e => ?_⟩, Same.refl _, fun _ _ _ h => h, fun a q => ?_⟩
  · obtain ⟨m0, e0, i⟩ := h a m e
    obtain ⟨g, m1⟩ := c.own a m0 e0
    exact ⟨g, i m1⟩
  · rcases q with q | q
    · exact .inl q
    · cases e : T1 a with
      | none => exact absurd e q
      | some m =>
        obtain ⟨m0, e0, _⟩ := h a m e
        exact .inr (.inl (by rw [e0]; exact fun z => by cases z))
end

abbrev Env := List (Option D)
def EnvOk (K : PySem.W.Frag) (G : Hp) (σ : L2.St) (ρ : Env) : Prop := σ.length = ρ.length ∧ ∀ (i : Nat) (d : D), ρ[i]? = some (some d) → ∃ v, σ[i]? = some (some v) ∧ Rp K G v d
section
variable {K : PySem.W.Frag} {G G1 : Hp} {σ : L2.St} {ρ : Env}
theorem EnvOk.up (h : EnvOk K G σ ρ) (s : Same G G1) : EnvOk K G1 σ ρ := ⟨h.1, fun i d e => by
  obtain ⟨v, e1, r⟩ := h.2 i d e
  exact ⟨v, e1, r.up s⟩⟩
theorem EnvOk.set (h : EnvOk K G σ ρ) {i : Nat} {v : V} {d : D} (r : Rp K G v d) : EnvOk K G (σ.set i (some v)) (ρ.set i (some d)) := by
  refine ⟨by rw [List.length_set, List.length_set]; exact h.1, fun j e q => ?_⟩
  rw [List.getElem?_set] at q ⊢
  by_cases hj : i = j
  · subst hj
    rw [if_pos rfl] at q ⊢
    by_cases hl : i < ρ.length
    · rw [if_pos hl] at q
      rw [if_pos (by rw [h.1]; exact hl)]
      cases q
      exact ⟨v, rfl, r⟩
    · rw [if_neg hl] at q; cases q
  · rw [if_neg hj] at q ⊢
    exact h.2 j e q
theorem EnvOk.unset (h : EnvOk K G σ ρ) (i : Nat) (x : Option V) : EnvOk K G (σ.set i x) (ρ.set i none) := by
  refine ⟨by rw [List.length_set, List.length_set]; exact h.1, fun j e q => ?_⟩
  rw [List.getElem?_set] at q ⊢
  by_cases hj : i = j
  · subst hj
    rw [if_pos rfl] at q
    by_cases hl : i < ρ.length
    · rw [if_pos hl] at q; cases q
    · rw [if_neg hl] at q; cases q
  · rw [if_neg hj] at q ⊢
    exact h.2 j e q
theorem EnvOk.wipe (h : EnvOk K G σ ρ) : ∀ vs : List Nat, EnvOk K G (L2.wipe σ vs) (vs.foldr (fun v r => r.set v none) ρ)
  | [] => h
  | v :: vs => (EnvOk.wipe h vs).unset v none
end
end SY

namespace SY
open PySem PySem.Spec PyProof.Rows L2

/-- an exception, told by its class's name -/
abbrev Xc := Str
/-- the class that a name of the text stands for -/
def clsA (K : PySem.W.Frag) (x : Str) : Value := match PySem.W.nsIn K mainGlobals x with
  | some (some v) => v
  | _ => .none
abbrev DE := Env → Sto → (D → Sto → Prop) → (Xc → Sto → Prop) → Prop
abbrev DA := Env → Sto → (List D → Sto → Prop) → (Xc → Sto → Prop) → Prop
abbrev DT := Env → Sto → (Bool → Sto → Prop) → (Xc → Sto → Prop) → Prop
abbrev DSp := List D → Sto → (D → Sto → Prop) → (Xc → Sto → Prop) → Prop

/-- what is raised goes where it is waited for -/
def LkX (K : PySem.W.Frag) (W : WX) (T : Sto) (G H : Hp) (σ : L2.St) (X : Xc → Sto → Prop) : Prop :=
  ∀ x T' G' H', X x T' → Gro K T G H T' G' H' → W (clsA K x) none σ H'
def LkV (K : PySem.W.Frag) (T : Sto) (G H : Hp) (P : D → Sto → Prop) (Q : VK) : Prop :=
  ∀ d T' v G' H', P d T' → Gro K T G H T' G' H' → Rp K G' v d → Q v H'
def LkA (K : PySem.W.Frag) (T : Sto) (G H : Hp) (P : List D → Sto → Prop) (Q : List V → Hp → Prop) : Prop :=
  ∀ ds T' vs G' H', P ds T' → Gro K T G H T' G' H' → RpA K G' vs ds → Q vs H'
def LkT (K : PySem.W.Frag) (T : Sto) (G H : Hp) (P : Bool → Sto → Prop) (Q : Bool → Hp → Prop) : Prop :=
  ∀ b T' G' H', P b T' → Gro K T G H T' G' H' → Q b H'
section
variable {K : PySem.W.Frag} {W : WX} {T T1 : Sto} {G G1 H H1 : Hp} {σ : L2.St} {X : Xc → Sto → Prop}
theorem LkX.up (h : LkX K W T G H σ X) (g : Gro K T G H T1 G1 H1) : LkX K W T1 G1 H1 σ X := fun x T' G' H' hx g' => h x T' G' H' hx (g.trans g')
theorem LkV.up {P : D → Sto → Prop} {Q : VK} (h : LkV K T G H P Q) (g : Gro K T G H T1 G1 H1) : LkV K T1 G1 H1 P Q := fun d T' v G' H' hx g' r => h d T' v G' H' hx (g.trans g') r
theorem LkT.up {P : Bool → Sto → Prop} {Q : Bool → Hp → Prop} (h : LkT K T G H P Q) (g : Gro K T G H T1 G1 H1) : LkT K T1 G1 H1 P Q := fun b T' G' H' hx g' => h b T' G' H' hx (g.trans g')
end

def can (K : PySem.W.Frag) (W : WX) (de : DE) : TE := fun σ H Q => ∃ T G ρ P X, Ctx K T G H ∧ EnvOk K G σ ρ ∧ de ρ T P X ∧ LkV K T G H P Q ∧ LkX K W T G H σ X
def canA (K : PySem.W.Frag) (W : WX) (da : DA) : TA := fun σ H Q => ∃ T G ρ P X, Ctx K T G H ∧ EnvOk K G σ ρ ∧ da ρ T P X ∧ LkA K T G H P Q ∧ LkX K W T G H σ X
def canT (K : PySem.W.Frag) (W : WX) (dt : DT) : TT := fun σ H Q => ∃ T G ρ P X, Ctx K T G H ∧ EnvOk K G σ ρ ∧ dt ρ T P X ∧ LkT K T G H P Q ∧ LkX K W T G H σ X

theorem PE.imp {X : Cx} {e : Expr} {t t' : TE} (h : PE X e t) (i : ∀ σ H Q, t' σ H Q → t σ H Q) : PE X e t' := ⟨fun pins s σ H Q I q => h.run pins s σ H Q I (i σ H Q q)⟩
theorem PT.imp {X : Cx} {e : Expr} {t t' : TT} (h : PT X e t) (i : ∀ σ H Q, t' σ H Q → t σ H Q) : PT X e t' := ⟨fun pins s σ H Q I q => h.run pins s σ H Q I (i σ H Q q)⟩
theorem PW.imp {X : Cx} {e : Expr} {t t' : TT} (h : PW X e t) (i : ∀ σ H Q, t' σ H Q → t σ H Q) : PW X e t' := ⟨fun whole pins s σ H Q I q => h.run whole pins s σ H Q I (i σ H Q q)⟩
theorem PA.imp {X : Cx} {e : List Expr} {t t' : TA} (h : PA X e t) (i : ∀ σ H Q, t' σ H Q → t σ H Q) : PA X e t' := ⟨fun pos pins s σ H Q I q => h.run pos pins s σ H Q I (i σ H Q q)⟩
theorem PS.imp {X : Cx} {e : Stmt} {t t' : TS} (h : PS X e t) (i : ∀ D σ H, t' D σ H → t D σ H) : PS X e t' := ⟨fun pins s σ H D I q => h.run pins s σ H D I (i D σ H q)⟩
theorem PSs.imp {X : Cx} {e : List Stmt} {t t' : TS} (h : PSs X e t) (i : ∀ D σ H, t' D σ H → t D σ H) : PSs X e t' := ⟨fun pins s σ H D I q => h.run pins s σ H D I (i D σ H q)⟩

/-! ### data -/
def mlst : Option MO → Option (List D)
  | some (.lst ds) => some ds
  | _ => none
def lstOf (T : Sto) : D → Option (List D)
  | .lst ds => some ds
  | .scr ns => some (ns.map .int)
  | .ptr a => mlst (T a)
  | _ => none
theorem mlst.of {o : Option MO} {ds : List D} (h : mlst o = some ds) : o = some (.lst ds) := by
  cases o with
  | none => cases h
  | some m => cases m with
    | lst d => cases h; rfl
    | _ => cases h
def seqOf (T : Sto) : D → Option (List D)
  | .tup ds => some ds
  | .lst ds => some ds
  | .scr ns => some (ns.map .int)
  | .ptr a => mlst (T a)
  | _ => none
section
variable {K : PySem.W.Frag} {T : Sto} {G H : Hp}
theorem lst_rd (c : Ctx K T G H) {d : D} {v : V} {ds : List D} (r : Rp K G v d) (e : lstOf T d = some ds) : ∃ a vs, v = .ref a ∧ SqL K H a vs ∧ RpA K G vs ds := by
  cases r with
  | lst h1 h2 => cases e; exact ⟨_, _, rfl, .of (c.sub _ _ h1), h2⟩
  | scr h1 => cases e; exact ⟨_, _, rfl, c.sub.seq h1, RpA.ints _⟩
  | ptr a =>
    obtain ⟨_, vs, hv, hr⟩ := c.own a _ (mlst.of e)
    exact ⟨a, vs, rfl, .of hv, hr⟩
  | _ => cases e
theorem seq_rd (c : Ctx K T G H) {d : D} {v : V} {ds : List D} (r : Rp K G v d) (e : seqOf T d = some ds) : ∃ a vs, v = .ref a ∧ (SqL K H a vs ∨ SqT K H a vs) ∧ RpA K G vs ds := by
  cases r with
  | tup h1 h2 => cases e; exact ⟨_, _, rfl, .inr (Same.seqT c.sub h1), h2⟩
  | lst h1 h2 => cases e; exact ⟨_, _, rfl, .inl (.of (c.sub _ _ h1)), h2⟩
  | scr h1 => cases e; exact ⟨_, _, rfl, .inl (c.sub.seq h1), RpA.ints _⟩
  | ptr a =>
    obtain ⟨_, vs, hv, hr⟩ := c.own a _ (mlst.of e)
    exact ⟨a, vs, rfl, .inl (.of hv), hr⟩
  | _ => cases e
end
theorem atI_of {α β : Type} {xs : List α} {ys : List β} (h : xs.length = ys.length) (i : Int) {R : α → β → Prop} (r : ∀ (j : Nat) (y : β), ys[j]? = some y → ∃ x, xs[j]? = some x ∧ R x y) {y : β} (e : atI ys i = some y) : ∃ x, atI xs i = some x ∧ R x y := by
  unfold atI at e ⊢
  rw [h]
  cases q : ixN ys.length i with
  | none => rw [q] at e; cases e
  | some j =>
    rw [q] at e
    exact r j y e

/-! ### expressions -/
section
variable {X : Cx} {W : WX} {a b e : Expr} {da db de : DE} {pos : Pos}
def dC (d : D) : DE := fun _ T P _ => P d T
theorem pd_int {i j} : PE X (.Constant (.int i) j pos) (can X.K W (dC (.int i))) := PE.imp pe_int fun σ H Q ⟨T, G, ρ, P, _, c, _, h, k, _⟩ => k _ _ _ _ _ h (.refl c) (.int i)
theorem pd_bl {i j} : PE X (.Constant (.bool i) j pos) (can X.K W (dC (.bl i))) := PE.imp pe_bl fun σ H Q ⟨T, G, ρ, P, _, c, _, h, k, _⟩ => k _ _ _ _ _ h (.refl c) (.bl i)
def someOf (o : Option D) (k : D → Prop) : Prop := match o with | some d => k d | none => False
theorem someOf.of {o : Option D} {k : D → Prop} (h : someOf o k) : ∃ d, o = some d ∧ k d := by
  cases o with
  | none => exact h.elim
  | some d => exact ⟨d, rfl, h⟩
def dVar (i : Nat) : DE := fun ρ T P _ => someOf (ρ.getD i none) fun d => P d T
theorem getD_some {ρ : Env} {i : Nat} {d : D} (h : ρ.getD i none = some d) : ρ[i]? = some (some d) := by
  rw [List.getD_eq_getElem?_getD] at h
  cases q : ρ[i]? with
  | none => rw [q] at h; cases h
  | some o => rw [q] at h; exact congrArg some h
theorem pd_var (i : Nat) {x : Str} (hN : X.N[i]? = some x := by rfl) (hv : Vis X.env.scope x := by first | exact Or.inl rfl | exact Or.inr (Or.inl rfl) | exact Or.inr (Or.inr rfl)) (hd : (x == ("__debug__" : Str)) = false := by decide)
    (hcd : (x == ("__classdict__" : Str)) = false := by decide) : PE X (.Name x pos) (can X.K W (dVar i)) := PE.imp (pe_var hN hv hd hcd) fun σ H Q ⟨T, G, ρ, P, _, c, ok, h, k, _⟩ => by
  obtain ⟨d, e, h⟩ := someOf.of h
  obtain ⟨v, e1, r⟩ := ok.2 i d (getD_some e)
  exact ⟨v, e1, k _ _ _ _ _ h (.refl c) r⟩

/-- two values, then what an operator makes of them -/
theorem op2 {K : PySem.W.Frag} {r : R2} {f : D → D → Sto → (D → Sto → Prop) → Prop}
    (hr : ∀ T G H x y v u P Q, Ctx K T G H → Rp K G v x → Rp K G u y → f x y T P → LkV K T G H P Q → r v u H Q) :
    ∀ σ H Q, can K W (fun ρ T P X => da ρ T (fun x T1 => db ρ T1 (fun y T2 => f x y T2 P) X) X) σ H Q → tOp r (can K W da) (can K W db) σ H Q := by
  intro σ H Q ⟨T, G, ρ, P, X, c, ok, h, k, kx⟩
  refine ⟨T, G, ρ, _, X, c, ok, h, fun x T1 v G1 H1 h1 g1 r1 => ?_, kx⟩
  refine ⟨T1, G1, ρ, _, X, g1.ctx, ok.up g1.sub, h1, fun y T2 u G2 H2 h2 g2 r2 => ?_, kx.up g1⟩
  exact hr T2 G2 H2 x y v u P Q g2.ctx (r1.up g2.sub) r2 h2 (k.up (g1.trans g2))
theorem op1 {K : PySem.W.Frag} {r : V → Hp → VK → Prop} {f : D → Sto → (D → Sto → Prop) → Prop}
    (hr : ∀ T G H x v P Q, Ctx K T G H → Rp K G v x → f x T P → LkV K T G H P Q → r v H Q) :
    ∀ σ H Q, can K W (fun ρ T P X => da ρ T (fun x T1 => f x T1 P) X) σ H Q → tUn r (can K W da) σ H Q := by
  intro σ H Q ⟨T, G, ρ, P, X, c, ok, h, k, kx⟩
  refine ⟨T, G, ρ, _, X, c, ok, h, fun x T1 v G1 H1 h1 g1 r1 => ?_, kx⟩
  exact hr T1 G1 H1 x v P Q g1.ctx r1 h1 (k.up g1)

def int2 (x y : D) (k : Int → Int → Prop) : Prop := match x, y with
  | .int i, .int j => k i j
  | _, _ => False
theorem int2.of {x y : D} {k : Int → Int → Prop} (h : int2 x y k) : ∃ i j, x = .int i ∧ y = .int j ∧ k i j := by
  cases x <;> cases y <;> first | exact h.elim | exact ⟨_, _, rfl, rfl, h⟩
def dI (C : Int → Int → Prop) (g : Int → Int → D) (a b : DE) : DE := fun ρ T P X => a ρ T (fun x T1 => b ρ T1 (fun y T2 => int2 x y fun i j => C i j ∧ P (g i j) T2) X) X
def dI0 (g : Int → Int → D) (a b : DE) : DE := fun ρ T P X => a ρ T (fun x T1 => b ρ T1 (fun y T2 => int2 x y fun i j => P (g i j) T2) X) X
theorem pd_I {op : Operator} {C : Int → Int → Prop} {g : Int → Int → V} {g' : Int → Int → D} (ho : OpR X (binaryOp op) (rI C g)) (hg : ∀ K G i j, Rp K G (g i j) (g' i j)) (ha : PE X a (can X.K W da)) (hb : PE X b (can X.K W db)) :
    PE X (.BinOp a op b pos) (can X.K W (dI C g' da db)) := PE.imp (pe_op ho ha hb) (op2 fun T G H x y v u P Q c r1 r2 h k => by
  obtain ⟨i, j, rfl, rfl, hc, h⟩ := int2.of h
  cases r1; cases r2
  exact ⟨i, j, rfl, rfl, hc, k _ _ _ _ _ h (.refl c) (hg _ _ i j)⟩)
structure MulOk (i j : Int) : Prop where
  ok : IntMulOk i j
theorem op_mulO : OpR X (binaryOp .Mult) (rI MulOk fun i j => .int (i * j)) := opI fun _ _ _ _ _ _ _ hc q => mul_int q hc.ok
def dMul : DE → DE → DE := dI MulOk fun i j => .int (i * j)
def dDiv : DE → DE → DE := dI CDivW fun i j => .int (i / j)
def dMod : DE → DE → DE := dI (fun _ j => 0 < j) fun i j => .int (i % j)
def dPow : DE → DE → DE := dI CPow fun i j => .int (i ^ j.toNat)
def dSub : DE → DE → DE := dI0 fun i j => .int (i - j)
def dLt : DE → DE → DE := dI0 fun i j => .bl (decide (i < j))
def dLe : DE → DE → DE := dI0 fun i j => .bl (decide (i ≤ j))
def dGt : DE → DE → DE := dI0 fun i j => .bl (decide (j < i))
def dGe : DE → DE → DE := dI0 fun i j => .bl (decide (j ≤ i))
theorem pd_mul (ha : PE X a (can X.K W da)) (hb : PE X b (can X.K W db)) : PE X (.BinOp a .Mult b pos) (can X.K W (dMul da db)) := pd_I op_mulO (fun _ _ _ _ => .int _) ha hb
theorem pd_div (ha : PE X a (can X.K W da)) (hb : PE X b (can X.K W db)) : PE X (.BinOp a .FloorDiv b pos) (can X.K W (dDiv da db)) := pd_I op_fdivW (fun _ _ _ _ => .int _) ha hb
theorem pd_mod (ha : PE X a (can X.K W da)) (hb : PE X b (can X.K W db)) : PE X (.BinOp a .Mod b pos) (can X.K W (dMod da db)) := pd_I op_mod (fun _ _ _ _ => .int _) ha hb
theorem pd_pow (ha : PE X a (can X.K W da)) (hb : PE X b (can X.K W db)) : PE X (.BinOp a .Pow b pos) (can X.K W (dPow da db)) := pd_I op_pow (fun _ _ _ _ => .int _) ha hb
theorem pd_sub (ha : PE X a (can X.K W da)) (hb : PE X b (can X.K W db)) : PE X (.BinOp a .Sub b pos) (can X.K W (dSub da db)) := PE.imp (pe_op op_sub ha hb) (op2 fun T G H x y v u P Q c r1 r2 h k => by
  obtain ⟨i, j, rfl, rfl, h⟩ := int2.of h
  cases r1; cases r2
  exact ⟨i, j, rfl, rfl, k _ _ _ _ _ h (.refl c) (.int _)⟩)
/-- -a -/
def int1 (x : D) (k : Int → Prop) : Prop := match x with
  | .int i => k i
  | _ => False
theorem int1.of {x : D} {k : Int → Prop} (h : int1 x k) : ∃ i, x = .int i ∧ k i := by
  cases x <;> first | exact h.elim | exact ⟨_, rfl, h⟩
def dNeg (a : DE) : DE := fun ρ T P X => a ρ T (fun x T1 => int1 x fun i => P (.int (-i)) T1) X
theorem pd_neg (ha : PE X a (can X.K W da)) : PE X (.UnaryOp .USub a pos) (can X.K W (dNeg da)) := PE.imp (pe_un un_neg ha) (op1 (f := fun x T P => int1 x fun i => P (.int (-i)) T) fun T G H x v P Q c r1 h k => by
  obtain ⟨i, rfl, h⟩ := int1.of h
  cases r1
  exact ⟨i, rfl, k _ _ _ _ _ h (.refl c) (.int _)⟩)
/-- a + b: numbers, texts, lists, tuples -/
def plst (T : Sto) : D → Option (List D)
  | .lst ds => some ds
  | .ptr a => mlst (T a)
  | _ => none
theorem plst.rd {K : PySem.W.Frag} {T : Sto} {G H : Hp} (c : Ctx K T G H) {d : D} {v : V} {ds : List D} (r : Rp K G v d) (e : plst T d = some ds) : ∃ a vs, v = .ref a ∧ H a = some (.lst vs) ∧ RpA K G vs ds := by
  cases r with
  | lst h1 h2 => cases e; exact ⟨_, _, rfl, c.sub _ _ h1, h2⟩
  | ptr a =>
    obtain ⟨_, vs, hv, hr⟩ := c.own a _ (mlst.of e)
    exact ⟨a, vs, rfl, hv, hr⟩
  | _ => cases e
def addL (x y : D) (T : Sto) (P : D → Sto → Prop) : Prop := match plst T x, plst T y with
  | some xs, some ys => xs.length + ys.length ≤ 1000000 ∧ P (.lst (xs ++ ys)) T
  | _, _ => False
def addD (x y : D) (T : Sto) (P : D → Sto → Prop) : Prop := match x, y with
  | .int i, .int j => P (.int (i + j)) T
  | .tup xs, .tup ys => (xs ≠ [] ∧ ys ≠ [] ∧ xs.length + ys.length ≤ 1000000) ∧ P (.tup (xs ++ ys)) T
  | .str x, .str y => x.length + y.length ≤ 1000000 ∧ P (.str (x ++ y)) T
  | .lst xs, y => addL (.lst xs) y T P
  | .ptr a, y => addL (.ptr a) y T P
  | _, _ => False
def dAdd (a b : DE) : DE := fun ρ T P X => a ρ T (fun x T1 => b ρ T1 (fun y T2 => addD x y T2 P) X) X
theorem size_le {n : Nat} (h : n ≤ 1000000) : n ≤ sizeLine := Nat.le_trans h (by decide)
theorem op_addA : OpR X (binaryOp .Add) (fun x y H Q => (rI0 fun i j => .int (i + j)) x y H Q ∨ rCat x y H Q ∨ rCatT X.K x y H Q ∨ (∃ i j, x = .str i ∧ y = .str j ∧ i.length + j.length ≤ sizeLine ∧ Q (.str (i ++ j)) H)) := OpR.or op_add (OpR.or op_cat (OpR.or op_catT op_add_str))
theorem addL.of {K : PySem.W.Frag} {T : Sto} {G H : Hp} {x y : D} {v u : V} {P : D → Sto → Prop} {Q : VK} (c : Ctx K T G H) (r1 : Rp K G v x) (r2 : Rp K G u y) (h : addL x y T P) (k : LkV K T G H P Q) : rCat v u H Q := by
  unfold addL at h
  cases q1 : plst T x with
  | none => rw [q1] at h; exact h.elim
  | some xs => cases q2 : plst T y with
    | none => rw [q1, q2] at h; exact h.elim
    | some ys =>
      rw [q1, q2] at h
      obtain ⟨a, vs, rfl, h1, h2⟩ := plst.rd c r1 q1
      obtain ⟨b, us, rfl, h3, h4⟩ := plst.rd c r2 q2
      exact ⟨_, _, _, _, rfl, rfl, h1, h3, size_le (by rw [h2.length, h4.length]; exact h.1), fun p hp => k _ _ _ _ _ h.2 (c.new hp) (.lst upd_same ((h2.append h4).up (c.new hp).sub))⟩
theorem pd_add (ha : PE X a (can X.K W da)) (hb : PE X b (can X.K W db)) : PE X (.BinOp a .Add b pos) (can X.K W (dAdd da db)) := PE.imp (pe_op op_addA ha hb) (op2 fun T G H x y v u P Q c r1 r2 h k => by
  cases r1 with
  | int i => cases r2 with
    | int j => exact .inl ⟨i, j, rfl, rfl, k _ _ _ _ _ h (.refl c) (.int _)⟩
    | _ => exact False.elim h
  | lst h1 h2 => exact .inr (.inl (addL.of c (.lst h1 h2) r2 h k))
  | ptr a => exact .inr (.inl (addL.of c (.ptr a) r2 h k))
  | tup h1 h2 => cases r2 with
    | tup h3 h4 =>
      obtain ⟨⟨n1, n2, hz⟩, h⟩ := h
      refine .inr (.inr (.inl ⟨_, _, _, _, rfl, rfl, Same.seqT c.sub h1, Same.seqT c.sub h3, fun e => ?_, size_le (by rw [h2.length, h4.length]; exact hz), fun e => ?_, fun _ p hp => k _ _ _ _ _ h (c.new hp) (.tup (.of upd_same) ((h2.append h4).up (c.new hp).sub))⟩))
      · subst e; cases h2; exact n1 rfl
      · subst e; cases h4; exact absurd rfl n2
    | _ => exact False.elim h
  | str s => cases r2 with
    | str t => exact .inr (.inr (.inr ⟨s, t, rfl, rfl, size_le h.1, k _ _ _ _ _ h.2 (.refl c) (.str _)⟩))
    | _ => exact False.elim h
  | _ => exact False.elim h)
/-- a[i] -/
def ixD (x y : D) (T : Sto) (P : D → Sto → Prop) : Prop := match seqOf T x, y with
  | some ds, .int i => someOf (atI ds i) fun d => P d T
  | _, _ => False
def dIx (a b : DE) : DE := fun ρ T P X => a ρ T (fun x T1 => b ρ T1 (fun y T2 => ixD x y T2 P) X) X
theorem pd_ix (ha : PE X a (can X.K W da)) (hb : PE X b (can X.K W db)) (hs : PlainIx b) : PE X (.Subscript a b pos) (can X.K W (dIx da db)) := PE.imp (pe_ix ix_seq ha hb hs) (op2 fun T G H x y v u P Q c r1 r2 h k => by
  unfold ixD at h
  cases q : seqOf T x with
  | none => rw [q] at h; exact h.elim
  | some ds =>
    rw [q] at h
    cases r2 with
    | int i =>
      obtain ⟨d, e, h⟩ := someOf.of h
      obtain ⟨p, vs, rfl, hs, hr⟩ := seq_rd c r1 q
      obtain ⟨w, hw, rw'⟩ := atI_of (R := fun a b => Rp X.K G a b) hr.length i (fun j y hy => hr.get hy) e
      rcases hs with hs | hs
      · exact .inl ⟨p, vs, i, w, rfl, rfl, hs, hw, k _ _ _ _ _ h (.refl c) rw'⟩
      · exact .inr (.inl ⟨p, vs, i, w, rfl, rfl, hs, hw, k _ _ _ _ _ h (.refl c) rw'⟩)
    | _ => exact h.elim)
/-! arguments -/
def dNil : DA := fun _ T P _ => P [] T
def dCons (a : DE) (b : DA) : DA := fun ρ T P X => a ρ T (fun x T1 => b ρ T1 (fun xs T2 => P (x :: xs) T2) X) X
theorem pda_nil : PA X [] (canA X.K W dNil) := PA.imp pa_nil fun σ H Q ⟨T, G, ρ, P, _, c, _, h, k, _⟩ => k _ _ _ _ _ h (.refl c) .nil
theorem can_cons {K : PySem.W.Frag} {db : DA} : ∀ σ H Q, canA K W (dCons da db) σ H Q → tCons (can K W da) (canA K W db) σ H Q := by
  intro σ H Q ⟨T, G, ρ, P, X, c, ok, h, k, kx⟩
  refine ⟨T, G, ρ, _, X, c, ok, h, fun x T1 v G1 H1 h1 g1 r1 => ?_, kx⟩
  refine ⟨T1, G1, ρ, _, X, g1.ctx, ok.up g1.sub, h1, fun ys T2 us G2 H2 h2 g2 r2 => ?_, kx.up g1⟩
  exact k _ _ _ _ _ h2 (g1.trans g2) (.cons (r1.up g2.sub) r2)
theorem pda_cons {es : List Expr} {db : DA} (ha : PE X e (can X.K W da)) (hr : PA X es (canA X.K W db)) (hs : starEach (e :: es) X.env = (false, eval e X.env) :: starEach es X.env := by rfl) : PA X (e :: es) (canA X.K W (dCons da db)) := PA.imp (pa_cons ha hr hs) can_cons
/-- (a, b), [a, b] -/
def dTup (a : DA) : DE := fun ρ T P X => a ρ T (fun xs T1 => xs.length ≤ 1000000 ∧ P (.tup xs) T1) X
def dLst (a : DA) : DE := fun ρ T P X => a ρ T (fun xs T1 => xs.length ≤ 1000000 ∧ P (.lst xs) T1) X
def dLstM (a : DA) : DE := fun ρ T P X => a ρ T (fun xs T1 => xs.length ≤ 1000000 ∧ ∀ p, T1 p = none → P (.ptr p) (updT T1 p (.lst xs))) X
theorem none_of_new {K : PySem.W.Frag} {T : Sto} {G H : Hp} (c : Ctx K T G H) {p : Addr} (h : H p = none) : T p = none := by
  cases q : T p with
  | none => rfl
  | some m => exact absurd h (c.own p m q).2.there
theorem pd_tup {es : List Expr} {dd : DA} {x1} (h : PA X es (canA X.K W dd)) : PE X (.Tuple es x1 pos) (can X.K W (dTup dd)) := PE.imp (pe_tup h) fun σ H Q ⟨T, G, ρ, P, Xp, c, ok, h, k, kx⟩ =>
  ⟨T, G, ρ, _, Xp, c, ok, h, fun ds T1 vs G1 H1 h1 g1 r1 => ⟨size_le (by rw [r1.length]; exact h1.1), fun p hp => k _ _ _ _ _ h1.2 (g1.trans (g1.ctx.new hp)) (.tup (.of upd_same) (r1.up (g1.ctx.new hp).sub))⟩, kx⟩
theorem pd_lst {es : List Expr} {dd : DA} (h : PA X es (canA X.K W dd)) : PE X (.List es pos) (can X.K W (dLst dd)) := PE.imp (pe_lst h) fun σ H Q ⟨T, G, ρ, P, Xp, c, ok, h, k, kx⟩ =>
  ⟨T, G, ρ, _, Xp, c, ok, h, fun ds T1 vs G1 H1 h1 g1 r1 => ⟨size_le (by rw [r1.length]; exact h1.1), fun p hp => k _ _ _ _ _ h1.2 (g1.trans (g1.ctx.new hp)) (.lst upd_same (r1.up (g1.ctx.new hp).sub))⟩, kx⟩
theorem pd_lstM {es : List Expr} {dd : DA} (h : PA X es (canA X.K W dd)) : PE X (.List es pos) (can X.K W (dLstM dd)) := PE.imp (pe_lst h) fun σ H Q ⟨T, G, ρ, P, Xp, c, ok, h, k, kx⟩ =>
  ⟨T, G, ρ, _, Xp, c, ok, h, fun ds T1 vs G1 H1 h1 g1 r1 => ⟨size_le (by rw [r1.length]; exact h1.1), fun p hp => k _ _ _ _ _ (h1.2 p (none_of_new g1.ctx hp)) (g1.trans (g1.ctx.newM hp r1)) (.ptr p)⟩, kx⟩
/-- a def is called -/
def lift (K : PySem.W.Frag) (sp : DSp) : Sp := fun vs H Q E => ∃ T G us P X, Ctx K T G H ∧ RpA K G vs us ∧ sp us T P X ∧ LkV K T G H P Q ∧ ∀ x T' G' H', X x T' → Gro K T G H T' G' H' → E (clsA K x) none H'
def dCall (sp : DSp) (a : DA) : DE := fun ρ T P X => a ρ T (fun us T1 => sp us T1 P X) X
theorem pd_call {sp : DSp} {k : Nat} {f : Addr} {fd : FuncData} {ps : List Str} {x : Str} {p : Pos} {es : List Expr} {dd : DA}
    (F : FnOk X.prog X.w X.K X.mg X.base (L2.CX X.prog X.w) k f fd ps (lift X.K sp)) (tk : Takes X W) (hr : Room k X.A) (hg : Gl X x) (hm : X.mg x = some (.ref f)) (hk : PySem.W.keepIn X.K (.ref f) = true) (hb : Binds X.K fd ps [])
    (ha : PA X (e :: es) (canA X.K W dd)) (hdb : (x == ("__debug__" : Str)) = false := by decide) (he : starEach (e :: es) X.env = (false, eval e X.env) :: starEach es X.env := by rfl) (hpl : (backTo pos (starEach es X.env)).any (·.1) = false := by rfl) :
    PE X (.Call (.Name x p) (e :: es) [] pos) (can X.K W (dCall sp dd)) := PE.imp (pe_callS F hr hg hm hk hb (fun σ => passAt tk σ) ha hdb he hpl) fun σ H Q ⟨T, G, ρ, P, Xp, c, ok, h, k, kx⟩ =>
  ⟨T, G, ρ, _, Xp, c, ok, h, fun us T1 vs G1 H1 h1 g1 r1 => ⟨T1, G1, us, P, Xp, g1.ctx, r1, h1, k.up g1, fun x T' G' H' hx g => kx x T' G' H' hx (g1.trans g)⟩, kx⟩
end
end SY

namespace SY
open PySem PySem.Spec PyProof.Rows L2

/-! ### equality -/
mutual
def py : D → PyData
  | .non => .none
  | .bl b => .bool b
  | .int i => .int i
  | .str s => .str s
  | .tup ds => .tuple (pys ds)
  | .lst ds => .list (pys ds)
  | .scr _ => .none
  | .ptr _ => .none
  | .dic _ _ => .none
def pys : List D → List PyData
  | [] => []
  | d :: ds => py d :: pys ds
end
mutual
def plainD : D → Bool
  | .tup ds => plainDs ds
  | .lst ds => plainDs ds
  | .scr _ => false
  | .ptr _ => false
  | .dic _ _ => false
  | _ => true
def plainDs : List D → Bool
  | [] => true
  | d :: ds => plainD d && plainDs ds
end
section
variable {K : PySem.W.Frag} {G H : Hp}
mutual
theorem Rp.dp (s : Same G H) : ∀ (d : D) (v : V), plainD d = true → Rp K G v d → Dp K H v (py d)
  | .non, _, _, h => by cases h; exact .non
  | .bl b, _, _, h => by cases h; exact .bl _
  | .int i, _, _, h => by cases h; exact .int _
  | .str x, _, _, h => by cases h; exact .str _
  | .tup ds, _, p, h => by
    cases h with
    | tup h1 h2 => exact .tup (Same.seqT s h1) (RpA.dp s ds _ p h2)
  | .lst ds, _, p, h => by
    cases h with
    | lst h1 h2 => exact .lst (.of (s _ _ h1)) (RpA.dp s ds _ p h2)
  | .scr ns, _, p, h => by cases p
  | .ptr a, _, p, h => by cases p
  | .dic _ _, _, p, h => by cases p
theorem RpA.dp (s : Same G H) : ∀ (ds : List D) (vs : List V), plainDs ds = true → RpA K G vs ds → DpAll K H vs (pys ds)
  | [], _, _, h => by cases h; exact .nil
  | d :: ds, _, p, h => by
    cases h with
    | cons h1 h2 =>
      have p2 : (plainD d && plainDs ds) = true := p
      rw [Bool.and_eq_true] at p2
      exact .cons (Rp.dp s d _ p2.1 h1) (RpA.dp s ds _ p2.2 h2)
end
end
def eqOk (x : D) : Bool := plainD x && SeqAt.shaped (py x)
def eqvD (x y : D) : Bool := PyData.eqv (py x) (py y)
def bl1 (x : D) (k : Bool → Prop) : Prop := match x with
  | .bl b => k b
  | _ => False
theorem bl1.of {x : D} {k : Bool → Prop} (h : bl1 x k) : ∃ i, x = .bl i ∧ k i := by
  cases x <;> first | exact h.elim | exact ⟨_, rfl, h⟩

section
variable {X : Cx} {W : WX} {a b e : Expr} {da db de : DE} {pos : Pos}
def dTst (de : DE) : DT := fun ρ T P X => de ρ T (fun x T1 => bl1 x fun b => P b T1) X
theorem canT_tst {K : PySem.W.Frag} {σ : L2.St} {H : Hp} {Q : Bool → Hp → Prop} (h : canT K W (dTst de) σ H Q) : can K W de σ H (fun x H' => ∃ k, x = .bl k ∧ Q k H') := by
  obtain ⟨T, G, ρ, P, X, c, ok, h, k, kx⟩ := h
  refine ⟨T, G, ρ, _, X, c, ok, h, fun x T1 v G1 H1 h1 g1 r1 => ?_, kx⟩
  obtain ⟨b, rfl, h1⟩ := bl1.of h1
  cases r1
  exact ⟨b, rfl, k b T1 G1 H1 h1 g1⟩
theorem pdt_C {op : CmpOp} {r : R2} (ho : OpR X (compareOp op) r) (ha : PE X a (can X.K W da)) (hb : PE X b (can X.K W db)) (hm : behindInMarks op b = false) (le : ∀ σ H Q, can X.K W de σ H Q → tOp r (can X.K W da) (can X.K W db) σ H Q) :
    PT X (.Compare a [op] [b] pos) (canT X.K W (dTst de)) := PT.imp (pt_cmpR ho ha hb hm) fun σ H Q h => le σ H _ (canT_tst h)
theorem le_I0 {K : PySem.W.Frag} {g : Int → Int → V} {g' : Int → Int → D} (hg : ∀ K G i j, Rp K G (g i j) (g' i j)) : ∀ σ H Q, can K W (dI0 g' da db) σ H Q → tOp (rI0 g) (can K W da) (can K W db) σ H Q := op2 fun T G H x y v u P Q c r1 r2 h k => by
  obtain ⟨i, j, rfl, rfl, h⟩ := int2.of h
  cases r1; cases r2
  exact ⟨i, j, rfl, rfl, k _ _ _ _ _ h (.refl c) (hg _ _ i j)⟩
theorem pdt_lt (ha : PE X a (can X.K W da)) (hb : PE X b (can X.K W db)) : PT X (.Compare a [.Lt] [b] pos) (canT X.K W (dTst (dLt da db))) := pdt_C op_lt ha hb (nomark _) (le_I0 fun _ _ _ _ => .bl _)
theorem pdt_le (ha : PE X a (can X.K W da)) (hb : PE X b (can X.K W db)) : PT X (.Compare a [.LtE] [b] pos) (canT X.K W (dTst (dLe da db))) := pdt_C op_le ha hb (nomark _) (le_I0 fun _ _ _ _ => .bl _)
theorem pdt_gt (ha : PE X a (can X.K W da)) (hb : PE X b (can X.K W db)) : PT X (.Compare a [.Gt] [b] pos) (canT X.K W (dTst (dGt da db))) := pdt_C op_gt ha hb (nomark _) (le_I0 fun _ _ _ _ => .bl _)
theorem pdt_ge (ha : PE X a (can X.K W da)) (hb : PE X b (can X.K W db)) : PT X (.Compare a [.GtE] [b] pos) (canT X.K W (dTst (dGe da db))) := pdt_C op_ge ha hb (nomark _) (le_I0 fun _ _ _ _ => .bl _)
def dEq (a b : DE) : DE := fun ρ T P X => a ρ T (fun x T1 => b ρ T1 (fun y T2 => (eqOk x = true ∧ eqOk y = true) ∧ P (.bl (eqvD x y)) T2) X) X
def dNe (a b : DE) : DE := fun ρ T P X => a ρ T (fun x T1 => b ρ T1 (fun y T2 => (eqOk x = true ∧ eqOk y = true) ∧ P (.bl (!eqvD x y)) T2) X) X
theorem le_eq {K : PySem.W.Frag} : ∀ σ H Q, can K W (dEq da db) σ H Q → tOp (rEqD K) (can K W da) (can K W db) σ H Q := op2 fun T G H x y v u P Q c r1 r2 h k => by
  obtain ⟨⟨o1, o2⟩, h⟩ := h
  unfold eqOk at o1 o2
  rw [Bool.and_eq_true] at o1 o2
  exact ⟨py x, py y, Rp.dp c.sub x v o1.1 r1, Rp.dp c.sub y u o2.1 r2, o1.2, o2.2, k _ _ _ _ _ h (.refl c) (.bl _)⟩
theorem le_ne {K : PySem.W.Frag} : ∀ σ H Q, can K W (dNe da db) σ H Q → tOp (rNeD K) (can K W da) (can K W db) σ H Q := op2 fun T G H x y v u P Q c r1 r2 h k => by
  obtain ⟨⟨o1, o2⟩, h⟩ := h
  unfold eqOk at o1 o2
  rw [Bool.and_eq_true] at o1 o2
  exact ⟨py x, py y, Rp.dp c.sub x v o1.1 r1, Rp.dp c.sub y u o2.1 r2, o1.2, o2.2, k _ _ _ _ _ h (.refl c) (.bl _)⟩
theorem pd_eq (hu : X.A.units + 64 < cLine) (ha : PE X a (can X.K W da)) (hb : PE X b (can X.K W db)) : PE X (.Compare a [.Eq] [b] pos) (can X.K W (dEq da db)) := PE.imp (pe_cmpR (op_eqD hu) ha hb (nomark _)) le_eq
theorem pd_ne (hu : X.A.units + 64 < cLine) (ha : PE X a (can X.K W da)) (hb : PE X b (can X.K W db)) : PE X (.Compare a [.NotEq] [b] pos) (can X.K W (dNe da db)) := PE.imp (pe_cmpR (op_neD hu) ha hb (nomark _)) le_ne
theorem pdt_eq (hu : X.A.units + 64 < cLine) (ha : PE X a (can X.K W da)) (hb : PE X b (can X.K W db)) : PT X (.Compare a [.Eq] [b] pos) (canT X.K W (dTst (dEq da db))) := pdt_C (op_eqD hu) ha hb (nomark _) le_eq
theorem pdt_ne (hu : X.A.units + 64 < cLine) (ha : PE X a (can X.K W da)) (hb : PE X b (can X.K W db)) : PT X (.Compare a [.NotEq] [b] pos) (canT X.K W (dTst (dNe da db))) := pdt_C (op_neD hu) ha hb (nomark _) le_ne
/-- x is None -/
def isNon : D → Bool
  | .non => true
  | _ => false
def dIsN (a : DE) : DE := fun ρ T P X => a ρ T (fun x T1 => P (.bl (isNon x)) T1) X
def dNotN (a : DE) : DE := fun ρ T P X => a ρ T (fun x T1 => P (.bl (!isNon x)) T1) X
/-! and, or, not -/
theorem pdt_val (h : PE X e (can X.K W de)) (he : ∀ whole, isTrue e X.env whole = (do let v ← whole; standAt e.pos; holding [v] (truthy v)) := by intro _; rfl) : PT X e (canT X.K W (dTst de)) := PT.imp (pt_val h he) fun σ H Q h => canT_tst h
def dtAnd (t u : DT) : DT := fun ρ T P X => t ρ T (fun c T1 => if c = true then u ρ T1 P X else P false T1) X
def dtOr (t u : DT) : DT := fun ρ T P X => t ρ T (fun c T1 => if c = true then P true T1 else u ρ T1 P X) X
def dtNot (t : DT) : DT := fun ρ T P X => t ρ T (fun c T1 => P (!c) T1) X
theorem le_tand {K : PySem.W.Frag} {t u : DT} : ∀ σ H Q, canT K W (dtAnd t u) σ H Q → tAnd (canT K W t) (canT K W u) σ H Q := by
  intro σ H Q ⟨T, G, ρ, P, X, c, ok, h, k, kx⟩
  refine ⟨T, G, ρ, _, X, c, ok, h, fun b T1 G1 H1 h1 g1 => ?_, kx⟩
  cases b with
  | true => exact iteT ⟨T1, G1, ρ, P, X, g1.ctx, ok.up g1.sub, by simpa using h1, k.up g1, kx.up g1⟩
  | false => exact iteF (k _ _ _ _ (by simpa using h1) g1)
theorem le_tor {K : PySem.W.Frag} {t u : DT} : ∀ σ H Q, canT K W (dtOr t u) σ H Q → tOr (canT K W t) (canT K W u) σ H Q := by
  intro σ H Q ⟨T, G, ρ, P, X, c, ok, h, k, kx⟩
  refine ⟨T, G, ρ, _, X, c, ok, h, fun b T1 G1 H1 h1 g1 => ?_, kx⟩
  cases b with
  | true => exact iteT (k _ _ _ _ (by simpa using h1) g1)
  | false => exact iteF ⟨T1, G1, ρ, P, X, g1.ctx, ok.up g1.sub, by simpa using h1, k.up g1, kx.up g1⟩
theorem pdw_and1 {t : DT} (ha : PT X a (canT X.K W t)) : PW X (.BoolOp .And [a] pos) (canT X.K W t) := pw_and1 ha
theorem pdw_or1 {t : DT} (ha : PT X a (canT X.K W t)) : PW X (.BoolOp .Or [a] pos) (canT X.K W t) := pw_or1 ha
theorem pdw_and {t u : DT} {rest : List Expr} (ha : PT X a (canT X.K W t)) (hb : PW X (.BoolOp .And (b :: rest) pos) (canT X.K W u)) : PW X (.BoolOp .And (a :: b :: rest) pos) (canT X.K W (dtAnd t u)) := PW.imp (pw_and ha hb) le_tand
theorem pdw_or {t u : DT} {rest : List Expr} (ha : PT X a (canT X.K W t)) (hb : PW X (.BoolOp .Or (b :: rest) pos) (canT X.K W u)) : PW X (.BoolOp .Or (a :: b :: rest) pos) (canT X.K W (dtOr t u)) := PW.imp (pw_or ha hb) le_tor
theorem pdt_not {t : DT} (ha : PT X a (canT X.K W t)) : PT X (.UnaryOp .Not a pos) (canT X.K W (dtNot t)) := PT.imp (pt_not ha) fun σ H Q ⟨T, G, ρ, P, Xp, c, ok, h, k, kx⟩ => ⟨T, G, ρ, _, Xp, c, ok, h, fun b T1 G1 H1 h1 g1 => k _ _ _ _ h1 g1, kx⟩
def dAnd (t u : DE) : DE := fun ρ T P X => t ρ T (fun x T1 => bl1 x fun c => if c = true then u ρ T1 P X else P (.bl false) T1) X
def dOr (t u : DE) : DE := fun ρ T P X => t ρ T (fun x T1 => bl1 x fun c => if c = true then P (.bl true) T1 else u ρ T1 P X) X
def dNot (t : DE) : DE := fun ρ T P X => t ρ T (fun x T1 => bl1 x fun c => P (.bl (!c)) T1) X
theorem pd_one {op} (h : PE X a (can X.K W da)) : PE X (.BoolOp op [a] pos) (can X.K W da) := pe_one h
theorem pd_and {rest : List Expr} (ha : PE X a (can X.K W da)) (hb : PE X (.BoolOp .And (b :: rest) pos) (can X.K W db)) : PE X (.BoolOp .And (a :: b :: rest) pos) (can X.K W (dAnd da db)) := PE.imp (pe_and ha hb) fun σ H Q ⟨T, G, ρ, P, Xp, c, ok, h, k, kx⟩ => by
  refine ⟨T, G, ρ, _, Xp, c, ok, h, fun x T1 v G1 H1 h1 g1 r1 => ?_, kx⟩
  obtain ⟨b, rfl, h9⟩ := bl1.of h1
  cases r1
  refine ⟨b, rfl, ?_⟩
  cases b with
  | true => exact iteT ⟨T1, G1, ρ, P, Xp, g1.ctx, ok.up g1.sub, by simpa using h9, k.up g1, kx.up g1⟩
  | false => exact iteF (k _ _ _ _ _ (by simpa using h9) g1 (.bl _))
theorem pd_or {rest : List Expr} (ha : PE X a (can X.K W da)) (hb : PE X (.BoolOp .Or (b :: rest) pos) (can X.K W db)) : PE X (.BoolOp .Or (a :: b :: rest) pos) (can X.K W (dOr da db)) := PE.imp (pe_or ha hb) fun σ H Q ⟨T, G, ρ, P, Xp, c, ok, h, k, kx⟩ => by
  refine ⟨T, G, ρ, _, Xp, c, ok, h, fun x T1 v G1 H1 h1 g1 r1 => ?_, kx⟩
  obtain ⟨b, rfl, h9⟩ := bl1.of h1
  cases r1
  refine ⟨b, rfl, ?_⟩
  cases b with
  | true => exact iteT (k _ _ _ _ _ (by simpa using h9) g1 (.bl _))
  | false => exact iteF ⟨T1, G1, ρ, P, Xp, g1.ctx, ok.up g1.sub, by simpa using h9, k.up g1, kx.up g1⟩
theorem pd_not (ha : PE X a (can X.K W da)) : PE X (.UnaryOp .Not a pos) (can X.K W (dNot da)) := PE.imp (pe_not ha) fun σ H Q ⟨T, G, ρ, P, Xp, c, ok, h, k, kx⟩ => by
  refine ⟨T, G, ρ, _, Xp, c, ok, h, fun x T1 v G1 H1 h1 g1 r1 => ?_, kx⟩
  obtain ⟨b, rfl, h1⟩ := bl1.of h1
  cases r1
  exact ⟨b, rfl, k _ _ _ _ _ h1 g1 (.bl _)⟩
/-! ### built-ins -/
def one (xs : List D) (k : D → Prop) : Prop := match xs with
  | [x] => k x
  | _ => False
theorem one.of {xs : List D} {k : D → Prop} (h : one xs k) : ∃ x, xs = [x] ∧ k x := by
  match xs, h with
  | [x], h => exact ⟨x, rfl, h⟩
theorem RpA.one {K : PySem.W.Frag} {G : Hp} {vs : List V} {d : D} (h : RpA K G vs [d]) : ∃ v, vs = [v] ∧ Rp K G v d := by
  cases h with
  | cons h1 h2 => cases h2; exact ⟨_, rfl, h1⟩
/-- abs(a) -/
def dAbs (a : DE) : DE := fun ρ T P X => a ρ T (fun x T1 => int1 x fun i => P (.int (if i < 0 then -i else i)) T1) X
theorem le_cb1 {K : PySem.W.Frag} {r : List V → Hp → VK → Prop} {f : D → Sto → (D → Sto → Prop) → Prop}
    (hr : ∀ T G H x v P Q, Ctx K T G H → Rp K G v x → f x T P → LkV K T G H P Q → r [v] H Q) :
    ∀ σ H Q, can K W (fun ρ T P X => da ρ T (fun x T1 => f x T1 P) X) σ H Q → tCB r (tCons (can K W da) tNil) σ H Q := by
  intro σ H Q ⟨T, G, ρ, P, X, c, ok, h, k, kx⟩
  exact ⟨T, G, ρ, _, X, c, ok, h, fun x T1 v G1 H1 h1 g1 r1 => hr T1 G1 H1 x v P Q g1.ctx r1 h1 (k.up g1), kx⟩
variable {x : Str} {p : Pos}
theorem pd_abs (hg : Gl X "abs") (hm : X.mg "abs" = none) (ha : PE X a (can X.K W da)) (he : starEach (a :: []) X.env = (false, eval a X.env) :: starEach [] X.env := by rfl) : PE X (.Call (.Name "abs" p) [a] [] pos) (can X.K W (dAbs da)) :=
  PE.imp (pe_callB call_abs hg hm (by decide +kernel) (pa_cons ha pa_nil he) (by decide) (by decide) he) (le_cb1 (f := fun x T P => int1 x fun i => P (.int (if i < 0 then -i else i)) T) fun T G H x v P Q c r h k => by
    obtain ⟨i, rfl, h⟩ := int1.of h
    cases r
    exact ⟨i, rfl, k _ _ _ _ _ h (.refl c) (.int _)⟩)
/-- len(a) -/
def lenD (x : D) (T : Sto) (P : D → Sto → Prop) : Prop := match seqOf T x with
  | some ds => P (.int (ds.length : Int)) T
  | none => match x with
    | .str s => s.length ≤ sizeLine ∧ P (.int (s.length : Int)) T
    | _ => False
def dLen (a : DE) : DE := fun ρ T P X => a ρ T (fun x T1 => lenD x T1 P) X
theorem pd_len (hg : Gl X "len") (hm : X.mg "len" = none) (ha : PE X a (can X.K W da)) (he : starEach (a :: []) X.env = (false, eval a X.env) :: starEach [] X.env := by rfl) : PE X (.Call (.Name "len" p) [a] [] pos) (can X.K W (dLen da)) :=
  PE.imp (pe_callB call_len hg hm PySem.boot_len (pa_cons ha pa_nil he) (by decide) (by decide) he) (le_cb1 (f := lenD) fun T G H x v P Q c r h k => by
    unfold lenD at h
    cases q : seqOf T x with
    | some ds =>
      rw [q] at h
      obtain ⟨a, vs, rfl, hs, hr⟩ := seq_rd c r q
      refine ⟨_, ds.length, rfl, ?_, k _ _ _ _ _ h (.refl c) (.int _)⟩
      rcases hs with hs | hs
      · exact .inl ⟨vs, hs, hr.length.symm⟩
      · exact .inr ⟨vs, hs, hr.length.symm⟩
    | none =>
      rw [q] at h
      cases r with
      | str s => exact ⟨_, s.length, rfl, ⟨h.1, rfl⟩, k _ _ _ _ _ h.2 (.refl c) (.int _)⟩
      | _ => exact h.elim)
/-- tuple(a), list(a) -/
def seqK (x : D) (T : Sto) (k : List D → Prop) : Prop := match seqOf T x with
  | some ds => k ds
  | none => False
theorem seqK.of {x : D} {T : Sto} {k : List D → Prop} (h : seqK x T k) : ∃ ds, seqOf T x = some ds ∧ k ds := by
  unfold seqK at h
  cases q : seqOf T x with
  | some ds => rw [q] at h; exact ⟨ds, rfl, h⟩
  | none => rw [q] at h; exact h.elim
def dTuple (a : DE) : DE := fun ρ T P X => a ρ T (fun x T1 => seqK x T1 fun ds => P (.tup ds) T1) X
def dList (a : DE) : DE := fun ρ T P X => a ρ T (fun x T1 => seqK x T1 fun ds => P (.lst ds) T1) X
def dListM (a : DE) : DE := fun ρ T P X => a ρ T (fun x T1 => seqK x T1 fun ds => ∀ p, T1 p = none → P (.ptr p) (updT T1 p (.lst ds))) X
theorem pd_tuple (hg : Gl X "tuple") (hm : X.mg "tuple" = none) (ha : PE X a (can X.K W da)) (he : starEach (a :: []) X.env = (false, eval a X.env) :: starEach [] X.env := by rfl) : PE X (.Call (.Name "tuple" p) [a] [] pos) (can X.K W (dTuple da)) :=
  PE.imp (pe_callTy call_tuple_of hg hm (by decide +kernel) (pa_cons ha pa_nil he) (by decide) (by decide) he) (le_cb1 (f := fun x T P => seqK x T fun ds => P (.tup ds) T) fun T G H x v P Q c r h k => by
    obtain ⟨ds, q, h9⟩ := seqK.of h
    cases r with
    | tup h1 h2 =>
      cases q
      exact ⟨_, _, rfl, .inr ⟨Same.seqT c.sub h1, k _ _ _ _ _ h9 (.refl c) (.tup h1 h2)⟩⟩
    | lst h1 h2 =>
      cases q
      exact ⟨_, _, rfl, .inl ⟨.of (c.sub _ _ h1), fun l hl => k _ _ _ _ _ h9 (c.new hl) (.tup (.of upd_same) (h2.up (c.new hl).sub))⟩⟩
    | scr h1 =>
      cases q
      exact ⟨_, _, rfl, .inl ⟨c.sub.seq h1, fun l hl => k _ _ _ _ _ h9 (c.new hl) (.tup (.of upd_same) (RpA.ints _))⟩⟩
    | ptr b =>
      obtain ⟨_, vs, hv, hr⟩ := c.own b _ (mlst.of q)
      exact ⟨_, _, rfl, .inl ⟨.of hv, fun l hl => k _ _ _ _ _ h9 (c.new hl) (.tup (.of upd_same) (hr.up (c.new hl).sub))⟩⟩
    | _ => cases q)
theorem pd_listM (hg : Gl X "list") (hm : X.mg "list" = none) (ha : PE X a (can X.K W da)) (he : starEach (a :: []) X.env = (false, eval a X.env) :: starEach [] X.env := by rfl) : PE X (.Call (.Name "list" p) [a] [] pos) (can X.K W (dListM da)) :=
  PE.imp (pe_callTy call_list_of hg hm (by decide +kernel) (pa_cons ha pa_nil he) (by decide) (by decide) he) (le_cb1 (f := fun x T P => seqK x T fun ds => ∀ p, T p = none → P (.ptr p) (updT T p (.lst ds))) fun T G H x v P Q c r h k => by
    obtain ⟨ds, q, h⟩ := seqK.of h
    obtain ⟨a, vs, rfl, hs, hr⟩ := seq_rd c r q
    exact ⟨_, _, rfl, hs, fun l hl => k _ _ _ _ _ (h l (none_of_new c hl)) (c.newM hl hr) (.ptr l)⟩)
/-- all(a), any(a), sum(a) -/
def blsOf : List D → Option (List Bool)
  | [] => some []
  | .bl b :: ds => (blsOf ds).map (b :: ·)
  | _ => none
def intsOf : List D → Option (List Int)
  | [] => some []
  | .int b :: ds => (intsOf ds).map (b :: ·)
  | _ => none
theorem blsOf.of {K : PySem.W.Frag} {G : Hp} : ∀ {ds : List D} {bs : List Bool} {vs : List V}, blsOf ds = some bs → RpA K G vs ds → vs = bs.map V.bl
  | [], bs, vs, e, r => by cases e; cases r; rfl
  | .bl b :: ds, bs, vs, e, r => by
    unfold blsOf at e
    cases q : blsOf ds with
    | none => rw [q] at e; cases e
    | some cs =>
      rw [q] at e
      cases e
      cases r with
      | cons h1 h2 =>
        cases h1
        rw [blsOf.of q h2]
        rfl
  | .non :: ds, bs, vs, e, r => by cases e
  | .int _ :: ds, bs, vs, e, r => by cases e
  | .str _ :: ds, bs, vs, e, r => by cases e
  | .tup _ :: ds, bs, vs, e, r => by cases e
  | .lst _ :: ds, bs, vs, e, r => by cases e
  | .scr _ :: ds, bs, vs, e, r => by cases e
  | .ptr _ :: ds, bs, vs, e, r => by cases e
theorem intsOf.of {K : PySem.W.Frag} {G : Hp} : ∀ {ds : List D} {bs : List Int} {vs : List V}, intsOf ds = some bs → RpA K G vs ds → vs = bs.map V.int
  | [], bs, vs, e, r => by cases e; cases r; rfl
  | .int b :: ds, bs, vs, e, r => by
    unfold intsOf at e
    cases q : intsOf ds with
    | none => rw [q] at e; cases e
    | some cs =>
      rw [q] at e
      cases e
      cases r with
      | cons h1 h2 =>
        cases h1
        rw [intsOf.of q h2]
        rfl
  | .non :: ds, bs, vs, e, r => by cases e
  | .bl _ :: ds, bs, vs, e, r => by cases e
  | .str _ :: ds, bs, vs, e, r => by cases e
  | .tup _ :: ds, bs, vs, e, r => by cases e
  | .lst _ :: ds, bs, vs, e, r => by cases e
  | .scr _ :: ds, bs, vs, e, r => by cases e
  | .ptr _ :: ds, bs, vs, e, r => by cases e
theorem intsOf_map : ∀ bs : List Int, intsOf (bs.map .int) = some bs
  | [] => rfl
  | b :: bs => by
    show (intsOf (bs.map .int)).map (b :: ·) = _
    rw [intsOf_map bs]
    rfl
def optK {α : Type} (o : Option α) (k : α → Prop) : Prop := match o with
  | some a => k a
  | none => False
theorem optK.of {α : Type} {o : Option α} {k : α → Prop} (h : optK o k) : ∃ a, o = some a ∧ k a := by
  cases o with
  | some a => exact ⟨a, rfl, h⟩
  | none => exact h.elim
def dAll (a : DE) : DE := fun ρ T P X => a ρ T (fun x T1 => optK (lstOf T1 x) fun ds => optK (blsOf ds) fun bs => P (.bl (bs.all id)) T1) X
def dSum (a : DE) : DE := fun ρ T P X => a ρ T (fun x T1 => optK (lstOf T1 x) fun ds => optK (intsOf ds) fun bs => P (.int bs.sum) T1) X
theorem pd_all (hc : X.calm = true) (hg : Gl X "all") (hm : X.mg "all" = none) (ha : PE X a (can X.K W da)) (he : starEach (a :: []) X.env = (false, eval a X.env) :: starEach [] X.env := by rfl) : PE X (.Call (.Name "all" p) [a] [] pos) (can X.K W (dAll da)) :=
  PE.imp (pe_callB (cr_all hc) hg hm (by decide +kernel) (pa_cons ha pa_nil he) (by decide) (by decide) he) (le_cb1 (f := fun x T P => optK (lstOf T x) fun ds => optK (blsOf ds) fun bs => P (.bl (bs.all id)) T) fun T G H x v P Q c r h k => by
    obtain ⟨ds, q, h⟩ := optK.of h
    obtain ⟨bs, q2, h⟩ := optK.of h
    obtain ⟨a, vs, rfl, hs, hr⟩ := lst_rd c r q
    have ev := blsOf.of q2 hr
    subst ev
    exact ⟨a, bs, rfl, hs, k _ _ _ _ _ h (.refl c) (.bl _)⟩)
/-- int(a), of a number or a truth value -/
def intK (x : D) (k : Int → Prop) : Prop := match x with
  | .int i => k i
  | .bl b => k (if b then 1 else 0)
  | _ => False
def dInt (a : DE) : DE := fun ρ T P X => a ρ T (fun x T1 => intK x fun i => P (.int i) T1) X
/-- isinstance(a, T), T a built-in class by its name -/
def tyN (T : Sto) : D → Option String
  | .non => some "NoneType"
  | .bl _ => some "bool"
  | .int _ => some "int"
  | .str _ => some "str"
  | .tup _ => some "tuple"
  | .lst _ => some "list"
  | .scr _ => none
  | .ptr a => (mlst (T a)).map fun _ => "list"
  | .dic _ _ => none
theorem tyN.of {K : PySem.W.Frag} {T : Sto} {G H : Hp} (c : Ctx K T G H) {v : V} {d : D} {n : String} (r : Rp K G v d) (e : tyN T d = some n) : TyX K H v (.type n) := by
  cases r with
  | non => cases e; exact .base .non
  | bl b => cases e; exact .base (.bl _)
  | int b => cases e; exact .base (.int _)
  | str b => cases e; exact .base (.str _)
  | tup h1 h2 =>
    cases e
    rcases Same.seqT c.sub h1 with (h | ⟨o, h⟩) | ⟨o, its, n, h, hc, _⟩
    · exact .base (.tup h)
    · exact .fTuple h
    · exact .kTuple h hc
  | lst h1 h2 => cases e; exact .base (.lst (c.sub _ _ h1))
  | scr h1 => cases e
  | dic _ _ _ _ _ => cases e
  | ptr a =>
    have e' : (mlst (T a)).map (fun _ => "list") = some n := e
    cases q : mlst (T a) with
    | none => rw [q] at e'; cases e'
    | some ds =>
      rw [q] at e'
      cases e'
      obtain ⟨_, vs, hv, hr⟩ := c.own a _ (mlst.of q)
      exact .base (.lst hv)
def dIsi (ty : String) (a : DE) : DE := fun ρ T P X => a ρ T (fun x T1 => optK (tyN T1 x) fun n => optK (kitB n ty) fun r => P (.bl r) T1) X
theorem pd_isi {ty : String} {tx : Str} {p2 : Pos} (hg : Gl X "isinstance") (hm : X.mg "isinstance" = none) (ha : PE X a (can X.K W da)) (hgt : Gl X tx) (hmt : X.mg tx = none) (hbt : bootBuiltins tx = some (.type ty)) (hnt : tx ≠ "__name__" := by decide) (hdt : (tx == ("__debug__" : Str)) = false := by decide)
    (he : starEach (a :: [.Name tx p2]) X.env = (false, eval a X.env) :: starEach [.Name tx p2] X.env := by rfl) : PE X (.Call (.Name "isinstance" p) [a, .Name tx p2] [] pos) (can X.K W (dIsi ty da)) :=
  PE.imp (pe_callB call_isi hg hm (by decide +kernel) (pa_cons ha (pa_cons (pe_bltn (v := .ty ty) hgt hmt hbt rfl hnt hdt) pa_nil) he) (by decide) (by decide) he) fun σ H Q ⟨T, G, ρ, P, Xp, c, ok, h, k, kx⟩ => by
    refine ⟨T, G, ρ, _, Xp, c, ok, h, fun x T1 v G1 H1 h1 g1 r1 => ?_, kx⟩
    obtain ⟨n, e1, h1⟩ := optK.of h1
    obtain ⟨b, e2, h1⟩ := optK.of h1
    exact ⟨v, .ty ty, .type n, .type ty, b, rfl, .ty _, tyN.of g1.ctx r1 e1, kit_ty e2, k _ _ _ _ _ h1 g1 (.bl _)⟩
theorem kit_ii : kitB "int" "int" = some true := by decide +kernel
theorem kit_ib : kitB "int" "bool" = some false := by decide +kernel
theorem kit_it : kitB "int" "tuple" = some false := by decide +kernel
theorem kit_bi : kitB "bool" "int" = some true := by decide +kernel
theorem kit_bb : kitB "bool" "bool" = some true := by decide +kernel
theorem kit_tt : kitB "tuple" "tuple" = some true := by decide +kernel
theorem kit_ti : kitB "tuple" "int" = some false := by decide +kernel
theorem kit_tb : kitB "tuple" "bool" = some false := by decide +kernel
theorem kit_nt : kitB "NoneType" "tuple" = some false := by decide +kernel
theorem kit_ll : kitB "list" "list" = some true := by decide +kernel
theorem kit_lt : kitB "list" "tuple" = some false := by decide +kernel
/-! slices -/
abbrev DO := Env → Sto → (Option Int → Sto → Prop) → (Xc → Sto → Prop) → Prop
def canO (K : PySem.W.Frag) (W : WX) (dd : DO) : TO := fun σ H Q => ∃ T G ρ P X, Ctx K T G H ∧ EnvOk K G σ ρ ∧ dd ρ T P X ∧ (∀ o T' G' H', P o T' → Gro K T G H T' G' H' → Q o H') ∧ LkX K W T G H σ X
def dNoO : DO := fun _ T P _ => P none T
def dSomeO (a : DE) : DO := fun ρ T P X => a ρ T (fun x T1 => int1 x fun i => P (some i) T1) X
theorem PO.imp {X : Cx} {e : Option Expr} {t t' : TO} (h : PO X e t) (i : ∀ σ H Q, t' σ H Q → t σ H Q) : PO X e t' := ⟨fun pins s σ H Q I q => h.run pins s σ H Q I (i σ H Q q)⟩
theorem pdo_none : PO X none (canO X.K W dNoO) := PO.imp po_none fun σ H Q ⟨T, G, ρ, P, _, c, _, h, k, _⟩ => k _ _ _ _ h (.refl c)
theorem pdo_some (h : PE X a (can X.K W da)) : PO X (some a) (canO X.K W (dSomeO da)) := PO.imp (po_some h) fun σ H Q ⟨T, G, ρ, P, Xp, c, ok, h, k, kx⟩ =>
  ⟨T, G, ρ, _, Xp, c, ok, h, fun x T1 v G1 H1 h1 g1 r1 => by
    obtain ⟨i, rfl, h1⟩ := int1.of h1
    cases r1
    exact ⟨i, rfl, k _ _ _ _ h1 g1⟩, kx⟩
def cutD {α : Type} (xs : List α) (lo hi : Option Int) : List α := (xs.drop (HT.sIx xs.length 0 lo)).take (HT.sIx xs.length xs.length hi - HT.sIx xs.length 0 lo)
def slD (x : D) (lo hi : Option Int) (T : Sto) (P : D → Sto → Prop) : Prop := match x with
  | .tup ds => ¬ (HT.sIx ds.length 0 lo = 0 ∧ HT.sIx ds.length ds.length hi = ds.length) ∧ P (.tup (cutD ds lo hi)) T
  | _ => optK (lstOf T x) fun ds => P (.lst (cutD ds lo hi)) T
def dSl (a : DE) (lo hi : DO) : DE := fun ρ T P X => a ρ T (fun x T1 => lo ρ T1 (fun l T2 => hi ρ T2 (fun h T3 => slD x l h T3 P) X) X) X
theorem RpA.cut {K : PySem.W.Frag} {G : Hp} {ds : List D} {vs : List V} (h : RpA K G vs ds) (lo hi : Option Int) : RpA K G (cutV vs lo hi) (cutD ds lo hi) := by
  unfold cutV cutD
  rw [h.length]
  exact (h.drop _).take _
theorem lstSl {K : PySem.W.Frag} {T : Sto} {G H : Hp} {x : D} {v : V} {l u : Option Int} {P : D → Sto → Prop} {Q : VK} (c : Ctx K T G H) (r : Rp K G v x) (h : optK (lstOf T x) fun ds => P (.lst (cutD ds l u)) T) (k : LkV K T G H P Q) : rSlL K v l u H Q := by
  obtain ⟨ds, q, h⟩ := optK.of h
  obtain ⟨a, vs, rfl, hs, hr⟩ := lst_rd c r q
  exact ⟨a, vs, rfl, hs, fun p hp => k _ _ _ _ _ h (c.new hp) (.lst upd_same ((hr.cut l u).up (c.new hp).sub))⟩
theorem pd_sl {lo hi : Option Expr} {dl dh : DO} {p2 : Pos} (ha : PE X a (can X.K W da)) (hl : PO X lo (canO X.K W dl)) (hh : PO X hi (canO X.K W dh)) : PE X (.Subscript a (.Slice lo hi none p2) pos) (can X.K W (dSl da dl dh)) :=
  PE.imp (pe_slice (SlR.or sl_list sl_tup) ha hl hh) fun σ H Q ⟨T, G, ρ, P, Xp, c, ok, h, k, kx⟩ => by
    refine ⟨T, G, ρ, _, Xp, c, ok, h, fun x T1 v G1 H1 h1 g1 r1 => ?_, kx⟩
    refine ⟨T1, G1, ρ, _, Xp, g1.ctx, ok.up g1.sub, h1, fun l T2 G2 H2 h2 g2 => ?_, kx.up g1⟩
    refine ⟨T2, G2, ρ, _, Xp, g2.ctx, ok.up (g1.sub.trans g2.sub), h2, fun u T3 G3 H3 h3 g3 => ?_, (kx.up g1).up g2⟩
    have g := (g1.trans g2).trans g3
    have r3 := r1.up (g2.sub.trans g3.sub)
    cases r3 with
    | tup q1 q2 =>
      obtain ⟨nw, h3⟩ := h3
      refine .inr ⟨_, _, rfl, Same.seqT g.ctx.sub q1, by rw [q2.length]; exact nw, fun p hp => k _ _ _ _ _ h3 (g.trans (g.ctx.new hp)) (.tup (.of upd_same) ((q2.cut l u).up (g.ctx.new hp).sub))⟩
    | lst q1 q2 => exact .inl (lstSl g.ctx (.lst q1 q2) h3 (k.up g))
    | scr q1 => exact .inl (lstSl g.ctx (.scr q1) h3 (k.up g))
    | ptr a => exact .inl (lstSl g.ctx (.ptr a) h3 (k.up g))
    | _ => exact False.elim h3
end
end SY

namespace SY
open PySem PySem.Spec PyProof.Rows L2

/-! ### statements -/
structure DX where
  nx : Env → Sto → Prop
  rt : D → Sto → Prop
  bk : Env → Sto → Prop := fun _ _ => False
  ct : Env → Sto → Prop := fun _ _ => False
  ex : Xc → Env → Sto → Prop := fun _ _ _ => False
abbrev DS := DX → Env → Sto → Prop
def LkN (K : PySem.W.Frag) (T : Sto) (G H : Hp) (N : Env → Sto → Prop) (Q : L2.St → Hp → Prop) : Prop := ∀ ρ' T' σ' G' H', N ρ' T' → Gro K T G H T' G' H' → EnvOk K G' σ' ρ' → Q σ' H'
structure Lk (K : PySem.W.Frag) (W : WX) (T : Sto) (G H : Hp) (E : DX) (D : Ends) : Prop where
  nx : LkN K T G H E.nx D.nx
  rt : LkV K T G H E.rt D.rt
  bk : LkN K T G H E.bk D.bk
  ct : LkN K T G H E.ct D.ct
  ex : ∀ x ρ' T' σ' G' H', E.ex x ρ' T' → Gro K T G H T' G' H' → EnvOk K G' σ' ρ' → W (clsA K x) none σ' H'
section
variable {K : PySem.W.Frag} {W : WX} {T T1 : Sto} {G G1 H H1 : Hp} {E : DX} {D : Ends}
theorem LkN.up {N : Env → Sto → Prop} {Q : L2.St → Hp → Prop} (h : LkN K T G H N Q) (g : Gro K T G H T1 G1 H1) : LkN K T1 G1 H1 N Q := fun ρ' T' σ' G' H' n g' ok => h ρ' T' σ' G' H' n (g.trans g') ok
theorem Lk.up (h : Lk K W T G H E D) (g : Gro K T G H T1 G1 H1) : Lk K W T1 G1 H1 E D := ⟨h.nx.up g, h.rt.up g, h.bk.up g, h.ct.up g, fun x ρ' T' σ' G' H' q g' ok => h.ex x ρ' T' σ' G' H' q (g.trans g') ok⟩
theorem Lk.exE (h : Lk K W T G H E D) {σ : L2.St} {ρ : Env} (ok : EnvOk K G σ ρ) : LkX K W T G H σ (fun x T1 => E.ex x ρ T1) := fun x T' G' H' q g => h.ex x ρ T' σ G' H' q g (ok.up g.sub)
end
def canS (K : PySem.W.Frag) (W : WX) (ds : DS) : TS := fun D σ H => ∃ T G ρ E, Ctx K T G H ∧ EnvOk K G σ ρ ∧ ds E ρ T ∧ Lk K W T G H E D
abbrev DG := D → Env → Sto → (Env → Sto → Prop) → (Xc → Sto → Prop) → Prop
abbrev DGs := List D → Env → Sto → (Env → Sto → Prop) → (Xc → Sto → Prop) → Prop
def canG (K : PySem.W.Frag) (W : WX) (dg : DG) : TG := fun v σ H Q => ∃ T G ρ d N X, Ctx K T G H ∧ EnvOk K G σ ρ ∧ Rp K G v d ∧ dg d ρ T N X ∧ LkN K T G H N Q ∧ LkX K W T G H σ X
def canGs (K : PySem.W.Frag) (W : WX) (dg : DGs) : TGs := fun vs σ H Q => ∃ T G ρ ds N X, Ctx K T G H ∧ EnvOk K G σ ρ ∧ RpA K G vs ds ∧ dg ds ρ T N X ∧ LkN K T G H N Q
theorem PG.imp {X : Cx} {e : Expr} {t t' : TG} (h : PG X e t) (i : ∀ v σ H Q, t' v σ H Q → t v σ H Q) : PG X e t' := ⟨fun pins s σ H v u Q I r q => h.run pins s σ H v u Q I r (i v σ H Q q)⟩
theorem PGs.imp {X : Cx} {e : List Expr} {t t' : TGs} (h : PGs X e t) (i : ∀ v σ H Q, t' v σ H Q → t v σ H Q) : PGs X e t' := ⟨fun pins s σ H v u Q I r q => h.run pins s σ H v u Q I r (i v σ H Q q)⟩
section
variable {X : Cx} {W : WX} {a b e : Expr} {da db de : DE} {pos pos' : Pos} {st : Stmt} {rest : List Stmt} {s1 s2 : DS} {x : Str} {p : Pos}
def dNext : DS := fun E ρ T => E.nx ρ T
def dSeq (s t : DS) : DS := fun E ρ T => s { E with nx := fun ρ' T' => t E ρ' T' } ρ T
theorem pds_nil : PSs X [] (canS X.K W dNext) := PSs.imp pss_nil fun D σ H ⟨T, G, ρ, E, c, ok, h, l⟩ => l.nx _ _ _ _ _ h (.refl c) ok
theorem pds_one (h : PS X st (canS X.K W s1)) : PSs X [st] (canS X.K W s1) := pss_one h
theorem pds_cons (h1 : PS X st (canS X.K W s1)) (h2 : PSs X rest (canS X.K W s2)) : PSs X (st :: rest) (canS X.K W (dSeq s1 s2)) := PSs.imp (pss_cons h1 h2) fun D σ H ⟨T, G, ρ, E, c, ok, h, l⟩ =>
  ⟨T, G, ρ, _, c, ok, h, ⟨fun ρ' T' σ' G' H' q g ok' => ⟨T', G', ρ', E, g.ctx, ok', q, l.up g⟩, l.rt, l.bk, l.ct, l.ex⟩⟩
def dBrk : DS := fun E ρ T => E.bk ρ T
def dCnt : DS := fun E ρ T => E.ct ρ T
def dNever : DS := fun _ _ _ => False
theorem can_mk {K : PySem.W.Frag} {de : DE} {σ : L2.St} {H : Hp} {T : Sto} {G : Hp} {ρ : Env} {P : D → Sto → Prop} {Xp : Xc → Sto → Prop} {Q : VK} (c : Ctx K T G H) (ok : EnvOk K G σ ρ) (h : de ρ T P Xp) (k : LkV K T G H P Q) (kx : LkX K W T G H σ Xp) : can K W de σ H Q := ⟨T, G, ρ, P, Xp, c, ok, h, k, kx⟩
def dAsg (de : DE) (i : Nat) : DS := fun E ρ T => de ρ T (fun d T1 => E.nx (ρ.set i (some d)) T1) (fun x T1 => E.ex x ρ T1)
theorem pds_set {i : Nat} (hN : X.N.Nodup) (hi : X.N[i]? = some x) (hx : Loc X.env.scope x) (he : PE X e (can X.K W de)) (hs : swapsWith e (some (.Name x pos')) pos.line X.env = pure false := by rfl) (hf : X.fn x = true ∨ X.env.scope.names.lookup x = some .local := by first | exact .inl rfl | exact .inr rfl | assumption) :
    PS X (.Assign [.Name x pos'] e pos) (canS X.K W (dAsg de i)) := PS.imp (ps_set hN hi hx he hs hf) fun D σ H ⟨T, G, ρ, E, c, ok, h, l⟩ =>
  can_mk c ok h (fun d T1 v G1 H1 h1 g1 r1 => l.nx _ _ _ _ _ h1 g1 ((ok.up g1.sub).set r1)) (l.exE ok)
def dRet (de : DE) : DS := fun E ρ T => de ρ T E.rt (fun x T1 => E.ex x ρ T1)
theorem pds_ret (he : PE X e (can X.K W de)) : PS X (.Return (some e) pos) (canS X.K W (dRet de)) := PS.imp (ps_ret he) fun D σ H ⟨T, G, ρ, E, c, ok, h, l⟩ => can_mk c ok h l.rt (l.exE ok)
def dRetN : DS := fun E _ T => E.rt .non T
def dDrop (de : DE) : DS := fun E ρ T => de ρ T (fun _ T1 => E.nx ρ T1) (fun x T1 => E.ex x ρ T1)
theorem pds_expr (he : PE X e (can X.K W de)) (hs : swapsWith e none pos.line X.env = pure false := by rfl) : PS X (.Expr e pos) (canS X.K W (dDrop de)) := PS.imp (ps_expr he hs) fun D σ H ⟨T, G, ρ, E, c, ok, h, l⟩ =>
  can_mk c ok h (fun d T1 v G1 H1 h1 g1 r1 => l.nx _ _ _ _ _ h1 g1 (ok.up g1.sub)) (l.exE ok)
def dIf (t : DT) (s u : DS) : DS := fun E ρ T => t ρ T (fun b T1 => if b = true then s E ρ T1 else u E ρ T1) (fun x T1 => E.ex x ρ T1)
theorem pds_if {c : Expr} {t : DT} {sa sb : List Stmt} (hc : PT X c (canT X.K W t)) (ha : PSs X sa (canS X.K W s1)) (hb : PSs X sb (canS X.K W s2)) : PS X (.If c sa sb pos) (canS X.K W (dIf t s1 s2)) := PS.imp (ps_if hc ha hb) fun D σ H ⟨T, G, ρ, E, c, ok, h, l⟩ => by
  refine ⟨T, G, ρ, _, _, c, ok, h, fun b T1 G1 H1 h1 g1 => ?_, l.exE ok⟩
  cases b with
  | true => exact iteT ⟨T1, G1, ρ, E, g1.ctx, ok.up g1.sub, by simpa using h1, l.up g1⟩
  | false => exact iteF ⟨T1, G1, ρ, E, g1.ctx, ok.up g1.sub, by simpa using h1, l.up g1⟩
/-- x += e of numbers -/
def dAug (f : Int → Int → Int) (i : Nat) (de : DE) : DS := fun E ρ T => someOf (ρ.getD i none) fun z => de ρ T (fun d T1 => int2 z d fun m n => E.nx (ρ.set i (some (.int (f m n)))) T1) (fun x T1 => E.ex x ρ T1)
theorem pds_aug {op : Operator} {f : Int → Int → Int} {i : Nat} (ho : PIp X op (ipI f)) (hN : X.N.Nodup) (hi : X.N[i]? = some x) (hx : Loc X.env.scope x) (he : PE X e (can X.K W de)) (hf : X.fn x = true ∨ X.env.scope.names.lookup x = some .local := by first | exact .inl rfl | exact .inr rfl | assumption) :
    PS X (.AugAssign (.Name x pos') op e pos) (canS X.K W (dAug f i de)) := PS.imp (ps_aug hN hi hx he ho hf) fun D σ H ⟨T, G, ρ, E, c, ok, h, l⟩ => by
  obtain ⟨z, ez, h⟩ := someOf.of h
  obtain ⟨v, e1, r⟩ := ok.2 i z (getD_some ez)
  refine ⟨v, e1, can_mk c ok h (fun d T1 u G1 H1 h1 g1 r1 => ?_) (l.exE ok)⟩
  obtain ⟨m, n, rfl, rfl, h1⟩ := int2.of h1
  cases r; cases r1
  exact ⟨m, n, rfl, rfl, l.nx _ _ _ _ _ h1 g1 ((ok.up g1.sub).set (.int _))⟩
/-- x, y = a, b -/
def two (xs : List D) (k : D → D → Prop) : Prop := match xs with
  | [x, y] => k x y
  | _ => False
theorem two.of {xs : List D} {k : D → D → Prop} (h : two xs k) : ∃ x y, xs = [x, y] ∧ k x y := by
  match xs, h with
  | [x, y], h => exact ⟨x, y, rfl, h⟩
theorem RpA.two {K : PySem.W.Frag} {G : Hp} {vs : List V} {d e : D} (h : RpA K G vs [d, e]) : ∃ v u, vs = [v, u] ∧ Rp K G v d ∧ Rp K G u e := by
  cases h with
  | cons h1 h2 => cases h2 with
    | cons h3 h4 => cases h4; exact ⟨_, _, rfl, h1, h3⟩
def dPar (i j : Nat) (da : DA) : DS := fun E ρ T => da ρ T (fun ds T1 => two ds fun d e => E.nx ((ρ.set i (some d)).set j (some e)) T1) (fun x T1 => E.ex x ρ T1)
theorem pds_par {i j : Nat} {x y : Str} {dd : DA} {px py pt : Pos} {kt k2 pt2} (hc : X.calm = true) (hN : X.N.Nodup) (hi : X.N[i]? = some x) (hj : X.N[j]? = some y) (hij : i ≠ j)
    (hx : X.env.scope.names.lookup x = some .local) (hy : X.env.scope.names.lookup y = some .local) (ha : PA X [a, b] (canA X.K W dd))
    (hw : swappedStores [.Tuple [.Name x px, .Name y py] kt pt] (.Tuple [a, b] k2 pt2) X.env = pure (some [x, y]) := by rfl)
    (hs : swapsWithSole [.Tuple [.Name x px, .Name y py] kt pt] (.Tuple [a, b] k2 pt2) pos.line X.env = pure false := by rfl) :
    PS X (.Assign [.Tuple [.Name x px, .Name y py] kt pt] (.Tuple [a, b] k2 pt2) pos) (canS X.K W (dPar i j dd)) := PS.imp (ps_par hc hN hi hj hij hx hy ha hw hs) fun D σ H ⟨T, G, ρ, E, c, ok, h, l⟩ => by
  refine ⟨T, G, ρ, _, _, c, ok, h, fun ds T1 vs G1 H1 h1 g1 r1 => ?_, l.exE ok⟩
  obtain ⟨d, e, rfl, h1⟩ := two.of h1
  obtain ⟨v, u, rfl, ra, rb⟩ := r1.two
  exact ⟨v, u, rfl, l.nx _ _ _ _ _ h1 g1 (((ok.up g1.sub).set ra).set rb)⟩
/-! targets -/
def dgName (i : Nat) : DG := fun d ρ T N _ => N (ρ.set i (some d)) T
theorem pdg_name {i : Nat} (hN : X.N.Nodup) (hi : X.N[i]? = some x) (hx : Loc X.env.scope x) (hf : X.fn x = true ∨ X.env.scope.names.lookup x = some .local := by first | exact .inl rfl | exact .inr rfl | assumption) : PG X (.Name x pos) (canG X.K W (dgName i)) :=
  PG.imp (pg_name hN hi hx hf) fun v σ H Q ⟨T, G, ρ, d, N, Xp, c, ok, r, h, l, _⟩ => l _ _ _ _ _ h (.refl c) (ok.set r)
def dgNil : DGs := fun ds ρ T N _ => ds = [] ∧ N ρ T
def dgsK (ds : List D) (k : D → List D → Prop) : Prop := match ds with
  | d :: r => k d r
  | [] => False
theorem dgsK.of {ds : List D} {k : D → List D → Prop} (h : dgsK ds k) : ∃ d r, ds = d :: r ∧ k d r := by
  match ds, h with
  | d :: r, h => exact ⟨d, r, rfl, h⟩
def nilK (ds : List D) (k : Prop) : Prop := match ds with
  | [] => k
  | _ :: _ => False
theorem nilK.of {ds : List D} {k : Prop} (h : nilK ds k) : ds = [] ∧ k := by
  match ds, h with
  | [], h => exact ⟨rfl, h⟩
def dgsNil : DGs := fun ds ρ T N _ => nilK ds (N ρ T)
def dgsName (i : Nat) (g : DGs) : DGs := fun ds ρ T N X => dgsK ds fun d r => g r (ρ.set i (some d)) T N X
theorem pdgs_nil : PGs X [] (canGs X.K W dgsNil) := PGs.imp pgs_nil fun vs σ H Q ⟨T, G, ρ, ds, N, Xp, c, ok, r, h, l⟩ => by
  obtain ⟨rfl, h⟩ := nilK.of h
  cases r
  exact ⟨rfl, l _ _ _ _ _ h (.refl c) ok⟩
theorem pdgs_name {i : Nat} {es : List Expr} {g : DGs} (hN : X.N.Nodup) (hi : X.N[i]? = some x) (hx : Loc X.env.scope x) (h2 : PGs X es (canGs X.K W g)) (hf : X.fn x = true ∨ X.env.scope.names.lookup x = some .local := by first | exact .inl rfl | exact .inr rfl | assumption)
    (hs : (assignEach (.Name x pos :: es) X.env).map (·.2) = assign (.Name x pos) X.env :: (assignEach es X.env).map (·.2) := by rfl) : PGs X (.Name x pos :: es) (canGs X.K W (dgsName i g)) :=
  PGs.imp (pgs_cons (pg_name hN hi hx hf) h2 hs) fun vs σ H Q ⟨T, G, ρ, ds, N, Xp, c, ok, r, h, l⟩ => by
    obtain ⟨d, q, rfl, h⟩ := dgsK.of h
    cases r with
    | cons r1 r2 => exact ⟨_, _, rfl, T, G, ρ.set i (some d), q, N, Xp, c, ok.set r1, r2, h, l⟩
def dgTup (n : Nat) (g : DGs) : DG := fun d ρ T N X => seqK d T fun ds => ds.length = n ∧ g ds ρ T N X
theorem pdg_tup {es : List Expr} {k : Nat} {g : DGs} {n : Nat} (hc : X.calm = true) (h : PGs X es (canGs X.K W g))
    (hn : (assignEach es X.env).length = n := by rfl) (hst : (assignEach es X.env).findIdx? (·.1) = none := by rfl) : PG X (.Tuple es k pos) (canG X.K W (dgTup n g)) := by
  have A := pg_tup (k := k) (pos := pos) hc h hn hst
  have B := pg_unl (k := k) (pos := pos) hc h hn hst
  refine ⟨fun pins s σ H v u Q I r q => ?_⟩
  obtain ⟨T, G, ρ, d, N, Xp, c, ok, rd, h, l, _⟩ := q
  obtain ⟨ds, es, hl, h⟩ := seqK.of h
  obtain ⟨a, vs, rfl, hs, hr⟩ := seq_rd c rd es
  have tail : canGs X.K W g vs σ H Q := ⟨T, G, ρ, ds, N, Xp, c, ok, hr, h, l⟩
  rcases hs with hs | hs
  · exact B.run pins s σ H _ u Q I r ⟨a, vs, rfl, hs, hr.length.trans hl, tail⟩
  · exact A.run pins s σ H _ u Q I r ⟨a, vs, rfl, hs, hr.length.trans hl, tail⟩
/-- o[i] = .. of a list that may be changed -/
def setD (o i d : D) (T : Sto) (k : Sto → Prop) : Prop := match o, i with
  | .ptr a, .int z => optK (mlst (T a)) fun ds => optK (ixN ds.length z) fun j => k (updT T a (.lst (ds.set j d)))
  | _, _ => False
def dgSub (d0 di : DE) : DG := fun d ρ T N X => d0 ρ T (fun o T1 => di ρ T1 (fun i T2 => setD o i d T2 fun T3 => N ρ T3) X) X
theorem pdg_sub {o i : Expr} {d1 d2 : DE} (ho : PE X o (can X.K W d1)) (hi : PE X i (can X.K W d2))
    (ha : ∀ v, assign (.Subscript o i pos) X.env v = (do
      let ov ← holding [v] (eval o X.env)
      let iv ← holding [v, ov] (eval i X.env)
      standAt pos
      holding [v, ov, iv] (setItem ov iv v)
      release [v, ov, iv] []) := by intro _; rfl) : PG X (.Subscript o i pos) (canG X.K W (dgSub d1 d2)) :=
  PG.imp (pg_sub ho hi set_list ha) fun v σ H Q ⟨T, G, ρ, d, N, Xp, c, ok, r, h, l, lx⟩ => by
    refine can_mk c ok h (fun o T1 v1 G1 H1 h1 g1 r1 => ?_) lx
    refine can_mk g1.ctx (ok.up g1.sub) h1 (fun i T2 v2 G2 H2 h2 g2 r2 => ?_) (lx.up g1)
    have r1' := r1.up g2.sub
    have rd := r.up (g1.sub.trans g2.sub)
    cases r1' with
    | ptr b => cases r2 with
      | int z =>
        obtain ⟨ds, e1, h3⟩ := optK.of h2
        obtain ⟨j, e2, h3⟩ := optK.of h3
        obtain ⟨gb, vs, hv, hr⟩ := g2.ctx.own b _ (mlst.of e1)
        refine ⟨b, vs, z, j, rfl, rfl, hv, by rw [hr.length]; exact e2, ?_⟩
        have g3 := g2.ctx.put (o := .lst (vs.set j v)) (m' := .lst (ds.set j d)) (mlst.of e1) ⟨_, upd_same, hr.set rd j⟩
        exact l _ _ _ _ _ h3 ((g1.trans g2).trans g3) (ok.up (g1.sub.trans (g2.sub.trans g3.sub)))
      | _ => exact h2.elim
    | _ => exact False.elim h2
def dAsgG (de : DE) (g : DG) : DS := fun E ρ T => de ρ T (fun d T1 => g d ρ T1 E.nx (fun x T2 => E.ex x ρ T2)) (fun x T1 => E.ex x ρ T1)
theorem pds_asg {tg : Expr} {g : DG} (he : PE X e (can X.K W de)) (hg : PG X tg (canG X.K W g)) (hs : swapsWithSole [tg] e pos.line X.env = pure false := by rfl) (hw : swappedStores [tg] e X.env = pure none := by rfl)
    (h1 : (assignEach [tg] X.env).map (·.2) = [assign tg X.env] := by rfl) : PS X (.Assign [tg] e pos) (canS X.K W (dAsgG de g)) := PS.imp (ps_asg he hg hs hw h1) fun D σ H ⟨T, G, ρ, E, c, ok, h, l⟩ =>
  can_mk c ok h (fun d T1 v G1 H1 h1 g1 r1 => ⟨T1, G1, ρ, d, E.nx, _, g1.ctx, ok.up g1.sub, r1, h1, (l.up g1).nx, (l.up g1).exE (ok.up g1.sub)⟩) (l.exE ok)
/-! methods of lists that may be changed -/
def appD (o d : D) (T : Sto) (P : D → Sto → Prop) : Prop := match o with
  | .ptr a => optK (mlst (T a)) fun ds => ds.length < 1000000 ∧ P .non (updT T a (.lst (ds ++ [d])))
  | _ => False
theorem tyV_ptr {K : PySem.W.Frag} {T : Sto} {G H : Hp} {b : Addr} {ds : List D} (c : Ctx K T G H) (e : mlst (T b) = some ds) : tyV K "list" (.ref b) H := by
  obtain ⟨gb, vs, hv, hr⟩ := c.own b _ (mlst.of e)
  exact .inl ⟨rfl, _, .of hv⟩
def isPtrL (T : Sto) : D → Bool
  | .ptr a => (mlst (T a)).isSome
  | _ => false
theorem isPtrL.ty {K : PySem.W.Frag} {T : Sto} {G H : Hp} {v : V} {o : D} (c : Ctx K T G H) (r : Rp K G v o) (h : isPtrL T o = true) : tyV K "list" v H := by
  cases r with
  | ptr a =>
    have h' : (mlst (T a)).isSome = true := h
    cases e : mlst (T a) with
    | none => rw [e] at h'; cases h'
    | some ds => exact tyV_ptr c e
  | _ => cases h
def dApp (d1 d2 : DE) : DE := fun ρ T P X => d1 ρ T (fun o T1 => isPtrL T1 o = true ∧ d2 ρ T1 (fun d T2 => appD o d T2 P) X) X
theorem pd_app {o : Expr} {d1 d2 : DE} {apos cpos : Pos} (ho : PE X o (can X.K W d1)) (ha : PE X e (can X.K W d2))
    (hbase : attributeBase o "append" X.env (eval o X.env) = eval o X.env := by rfl)
    (hfew : ((backTo cpos (starEach [e] X.env)).all (fun x => !x.1) && (backToKw cpos (keywordEach [] X.env)).all (fun x => x.1.isSome)
      && decide ([e].length + ([] : List Keyword).length + (if ([] : List Keyword).isEmpty then 0 else 1) < 30)) = true := by rfl)
    (hline : (apos.endLine == cpos.line) = true := by rfl) (hs : starEach [e] X.env = (false, eval e X.env) :: starEach [] X.env := by rfl) :
    PE X (.Call (.Attribute o "append" apos) [e] [] cpos) (can X.K W (dApp d1 d2)) :=
  PE.imp (pe_bm PySem.F.plainAttrs_list PySem.F.slot_list_append PySem.F.type_list_append mt_append ho (pa_cons ha pa_nil hs) hbase hfew hline hs) fun σ H Q ⟨T, G, ρ, P, Xp, c, ok, h, k, kx⟩ => by
    refine can_mk c ok h (fun o T1 v1 G1 H1 h1 g1 r1 => ⟨isPtrL.ty g1.ctx r1 h1.1, ?_⟩) kx
    refine can_mk g1.ctx (ok.up g1.sub) h1.2 (fun d T2 v2 G2 H2 h2 g2 r2 => ?_) (kx.up g1)
    have r1' := r1.up g2.sub
    cases r1' with
    | ptr b =>
      obtain ⟨ds, e1, hz, h3⟩ := optK.of h2
      obtain ⟨gb, vs, hv, hr⟩ := g2.ctx.own b _ (mlst.of e1)
      refine ⟨b, vs, v2, rfl, rfl, hv, ?_, ?_⟩
      · rw [hr.length]; exact Nat.lt_of_lt_of_le hz (by decide)
      · have g3 := g2.ctx.put (o := .lst (vs ++ [v2])) (m' := .lst (ds ++ [d])) (mlst.of e1) ⟨_, upd_same, hr.append (.cons r2 .nil)⟩
        exact k _ _ _ _ _ h3 ((g1.trans g2).trans g3) .non
    | _ => exact False.elim h2
/-- l.pop(i) -/
def popD (o i : D) (T : Sto) (P : D → Sto → Prop) : Prop := match o, i with
  | .ptr a, .int z => (-(2 ^ 63) ≤ z ∧ z < 2 ^ 63) ∧ optK (mlst (T a)) fun ds => optK (seqIndex? z ds.length) fun j => someOf ds[j]? fun d => P d (updT T a (.lst (ds.eraseIdx j)))
  | _, _ => False
def dPopAt (d1 d2 : DE) : DE := fun ρ T P X => d1 ρ T (fun o T1 => isPtrL T1 o = true ∧ d2 ρ T1 (fun d T2 => popD o d T2 P) X) X
theorem pd_popAt {o : Expr} {d1 d2 : DE} {apos cpos : Pos} (ho : PE X o (can X.K W d1)) (ha : PE X e (can X.K W d2))
    (hbase : attributeBase o "pop" X.env (eval o X.env) = eval o X.env := by rfl)
    (hfew : ((backTo cpos (starEach [e] X.env)).all (fun x => !x.1) && (backToKw cpos (keywordEach [] X.env)).all (fun x => x.1.isSome)
      && decide ([e].length + ([] : List Keyword).length + (if ([] : List Keyword).isEmpty then 0 else 1) < 30)) = true := by rfl)
    (hline : (apos.endLine == cpos.line) = true := by rfl) (hs : starEach [e] X.env = (false, eval e X.env) :: starEach [] X.env := by rfl) :
    PE X (.Call (.Attribute o "pop" apos) [e] [] cpos) (can X.K W (dPopAt d1 d2)) :=
  PE.imp (pe_bm PySem.F.plainAttrs_list PySem.F.slot_list_pop PySem.F.type_list_pop mt_popAt ho (pa_cons ha pa_nil hs) hbase hfew hline hs) fun σ H Q ⟨T, G, ρ, P, Xp, c, ok, h, k, kx⟩ => by
    refine can_mk c ok h (fun o T1 v1 G1 H1 h1 g1 r1 => ⟨isPtrL.ty g1.ctx r1 h1.1, ?_⟩) kx
    refine can_mk g1.ctx (ok.up g1.sub) h1.2 (fun d T2 v2 G2 H2 h2 g2 r2 => ?_) (kx.up g1)
    have r1' := r1.up g2.sub
    cases r1' with
    | ptr b => cases r2 with
      | int z =>
        obtain ⟨hz, h2⟩ := h2
        obtain ⟨ds, e1, h3⟩ := optK.of h2
        obtain ⟨j, e2, h3⟩ := optK.of h3
        obtain ⟨y, e3, h3⟩ := someOf.of h3
        obtain ⟨gb, vs, hv, hr⟩ := g2.ctx.own b _ (mlst.of e1)
        obtain ⟨w, hw, rw'⟩ := hr.get e3
        refine ⟨b, vs, z, j, w, rfl, rfl, hv, hz.1, hz.2, by rw [hr.length]; exact e2, hw, ?_⟩
        have g3 := g2.ctx.put (o := .lst (vs.eraseIdx j)) (m' := .lst (ds.eraseIdx j)) (mlst.of e1) ⟨_, upd_same, hr.eraseIdx j⟩
        exact k _ _ _ _ _ h3 ((g1.trans g2).trans g3) (rw'.up g3.sub)
      | _ => exact h2.elim
    | _ => exact False.elim h2
end
end SY

namespace SY
open PySem PySem.Spec PyProof.Rows L2

/-! ### loops -/
def forL (dg : DG) (db : DS) (E : DX) : List D → Env → Sto → Prop
  | [], ρ, T => E.nx ρ T
  | d :: ds, ρ, T => dg d ρ T (fun ρ1 T1 => db { E with nx := forL dg db E ds, ct := forL dg db E ds, bk := E.nx } ρ1 T1) (fun x T1 => E.ex x ρ T1)
/-- what stays as it is while it is walked -/
def frozen : D → Option (List D)
  | .tup ds => some ds
  | .lst ds => some ds
  | .scr ns => some (ns.map .int)
  | _ => none
theorem frozen.rd {K : PySem.W.Frag} {G : Hp} {d : D} {v : V} {ds : List D} (r : Rp K G v d) (e : frozen d = some ds) : ∃ a vs, v = .ref a ∧ (SqL K G a vs ∨ SqT K G a vs) ∧ RpA K G vs ds := by
  cases r with
  | tup h1 h2 => cases e; exact ⟨_, _, rfl, .inr h1, h2⟩
  | lst h1 h2 => cases e; exact ⟨_, _, rfl, .inl (.of h1), h2⟩
  | scr h1 => cases e; exact ⟨_, _, rfl, .inl h1, RpA.ints _⟩
  | _ => cases e
section
variable {X : Cx} {tg l : Expr} {tl : TE}
def iSeq (K : PySem.W.Frag) (tl : TE) : TI := fun σ H R => tl σ H fun x H1 => ∃ a, x = .ref a ∧ (((∃ xs, SqL K H1 a xs) ∧ R (Itl K a) H1) ∨ ((∃ xs, SqT K H1 a xs) ∧ R (Itt K a) H1))
theorem pi_seq (hl : PE X l tl) : PI X tg l (iSeq X.K tl) := by
  refine ⟨fun pins s σ H R I h => ?_⟩
  refine thn (hl.run pins s σ H _ I h) fun v s1 ⟨x, H1, I1, r1, q1⟩ => ?_
  obtain ⟨a, e, q1⟩ := q1
  subst e
  cases r1
  rcases q1 with ⟨⟨xs, hq⟩, q⟩ | ⟨⟨xs, hq⟩, q⟩
  · obtain ⟨its, rv, p, hz⟩ := I1.list hq
    refine wpAny_pyIter_list p.isList ?_
    refine ⟨s1.heap.objs.size, [s1.heap.objs.size], _, _, H1, rfl, I1.kept (t' := s1.toks) fun b o e => Heap.get?_push_of_some _ e, turn_list a _, ⟨_, Heap.get?_push_size _ rfl, rfl, rfl⟩, fun b hb => ?_, q⟩
    have e : b = s1.heap.objs.size := by simpa using hb
    subst e
    exact I1.fpOk (Nat.le_refl _) (I1.hok.fresh (Nat.le_refl _))
  · obtain ⟨its, rv, p, hz⟩ := I1.tuple hq
    refine wpAny_pyIter_tuple (show s1.heap.IsTuple a its.toArray from p) ?_
    refine ⟨s1.heap.objs.size, [s1.heap.objs.size], _, _, H1, rfl, I1.kept (t' := s1.toks) fun b o e => Heap.get?_push_of_some _ e, turn_tuple a _, ⟨_, Heap.get?_push_size _ rfl, rfl, rfl⟩, fun b hb => ?_, q⟩
    have e : b = s1.heap.objs.size := by simpa using hb
    subst e
    exact I1.fpOk (Nat.le_refl _) (I1.hok.fresh (Nat.le_refl _))
end
theorem drop_cons {α : Type} : ∀ {l : List α} {i : Nat} {x : α}, l[i]? = some x → l.drop i = x :: l.drop (i + 1)
  | [], i, x, h => by simp at h
  | a :: l, 0, x, h => by simp at h; subst h; rfl
  | a :: l, i + 1, x, h => by
    have ih := drop_cons (l := l) (i := i) (x := x) (by simpa using h)
    simpa using ih
section
variable {X : Cx} {W : WX} {a b e tg iter : Expr} {da db de : DE} {pos pos' : Pos} {body : List Stmt} {sb : DS} {dg : DG} {x : Str} {p : Pos}
/-- what holds between two turns -/
def Pv (K : PySem.W.Frag) (dg : DG) (sb : DS) (E : DX) (ds : List D) (T1 : Sto) (G1 H1 : Hp) (i : Nat) (σ : L2.St) (H : Hp) : Prop := ∃ T' G' ρ', Gro K T1 G1 H1 T' G' H ∧ EnvOk K G' σ ρ' ∧ forL dg sb E (ds.drop i) ρ' T'
theorem Pv.turn {K : PySem.W.Frag} {E : DX} {D : Ends} {ds : List SY.D} {T1 : Sto} {G1 H1 : Hp} {i : Nat} {σ : L2.St} {H : Hp} {v : V} {d : SY.D} (l : Lk K W T1 G1 H1 E D) (ed : ds[i]? = some d) (h : Pv K dg sb E ds T1 G1 H1 i σ H) (r : ∀ G', Same G1 G' → Rp K G' v d) :
    canG K W dg v σ H fun σ2 H2 => canS K W sb { D with nx := Pv K dg sb E ds T1 G1 H1 (i + 1), ct := Pv K dg sb E ds T1 G1 H1 (i + 1), bk := D.nx } σ2 H2 := by
  obtain ⟨T', G', ρ', g, ok, h⟩ := h
  rw [drop_cons ed] at h
  refine ⟨T', G', ρ', d, _, _, g.ctx, ok, r G' g.sub, h, fun ρ2 T2 σ2 G2 H2 h2 g2 ok2 => ?_, (l.up g).exE ok⟩
  refine ⟨T2, G2, ρ2, _, g2.ctx, ok2, h2, ⟨fun ρ3 T3 σ3 G3 H3 h3 g3 ok3 => ⟨T3, G3, ρ3, (g.trans g2).trans g3, ok3, h3⟩, ((l.up g).up g2).rt, ((l.up g).up g2).nx, fun ρ3 T3 σ3 G3 H3 h3 g3 ok3 => ⟨T3, G3, ρ3, (g.trans g2).trans g3, ok3, h3⟩, ((l.up g).up g2).ex⟩⟩
theorem Pv.done {K : PySem.W.Frag} {E : DX} {D : Ends} {ds : List SY.D} {T1 : Sto} {G1 H1 : Hp} {σ : L2.St} {H : Hp} (l : Lk K W T1 G1 H1 E D) (h : Pv K dg sb E ds T1 G1 H1 ds.length σ H) : D.nx σ H := by
  obtain ⟨T', G', ρ', g, ok, h⟩ := h
  rw [List.drop_length] at h
  exact l.nx _ _ _ _ _ h g ok
def dFor (dg : DG) (de : DE) (sb : DS) : DS := fun E ρ T => de ρ T (fun x T1 => optK (frozen x) fun ds => forL dg sb E ds ρ T1) (fun x T1 => E.ex x ρ T1)
theorem pds_for (po : PassesOwn (model X.prog X.w) X.A X.env X.xe) (hc : X.calm = true) (he : PE X iter (can X.K W de)) (hg : PG X tg (canG X.K W dg)) (hb : PSs X body (canS X.K W sb))
    (hs : ∀ x, foldedSetIterable iter X.env x = pure x := by intro _; rfl) : PS X (.For tg iter body [] pos) (canS X.K W (dFor dg de sb)) :=
  PS.imp (ps_for po hc (pi_seq he) hg hb hs) fun D σ H ⟨T, G, ρ, E, c, ok, h, l⟩ => by
    refine can_mk c ok h (fun d T1 v G1 H1 h1 g1 r1 => ?_) (l.exE ok)
    obtain ⟨ds, ef, h1⟩ := optK.of h1
    obtain ⟨a, vs, rfl, hs, hr⟩ := frozen.rd r1 ef
    have l1 := l.up g1
    have st : Pv X.K dg sb E ds T1 G1 H1 0 σ H1 := ⟨T1, G1, ρ, .refl g1.ctx, ok.up g1.sub, h1⟩
    refine ⟨a, rfl, ?_⟩
    have tn : ∀ (i : Nat) (x : V) σ' H', vs[i]? = some x → Pv X.K dg sb E ds T1 G1 H1 i σ' H' → canG X.K W dg x σ' H' fun σ2 H2 => canS X.K W sb { D with nx := Pv X.K dg sb E ds T1 G1 H1 (i + 1), ct := Pv X.K dg sb E ds T1 G1 H1 (i + 1), bk := D.nx } σ2 H2 := fun i x σ' H' hx hp => by
      obtain ⟨d, ed, rd⟩ := hr.getV hx
      exact Pv.turn l1 ed hp fun G' s => rd.up s
    have dn : ∀ σ' H', Pv X.K dg sb E ds T1 G1 H1 vs.length σ' H' → D.nx σ' H' := fun σ' H' hp => by
      rw [hr.length] at hp
      exact Pv.done l1 hp
    rcases hs with hs | hs
    · exact .inl ⟨⟨vs, g1.ctx.sub.seq hs⟩, for_list (xs := vs) _ st (fun i σ' H' _ ⟨T', G', ρ', g, _, _⟩ => (g.sub.trans g.ctx.sub).seq hs) tn dn⟩
    · exact .inr ⟨⟨vs, Same.seqT g1.ctx.sub hs⟩, for_tup (xs := vs) _ st (fun i σ' H' _ ⟨T', G', ρ', g, _, _⟩ => Same.seqT (g.sub.trans g.ctx.sub) hs) tn dn⟩
/-- for .. in range(..) -/
def rngL (lo : Int) : Nat → List D
  | 0 => []
  | n + 1 => .int lo :: rngL (lo + 1) n
theorem rngL_get : ∀ (n i : Nat) (lo : Int), i < n → (rngL lo n)[i]? = some (.int (lo + i))
  | 0, i, lo, h => absurd h (Nat.not_lt_zero _)
  | n + 1, 0, lo, h => by simp [rngL]
  | n + 1, i + 1, lo, h => by
    have ih := rngL_get n i (lo + 1) (by omega)
    show (rngL (lo + 1) n)[i]? = _
    rw [ih]
    congr 2
    omega
theorem rngL_length : ∀ (n : Nat) (lo : Int), (rngL lo n).length = n
  | 0, _ => rfl
  | n + 1, lo => by show (rngL (lo + 1) n).length + 1 = n + 1; rw [rngL_length n]
structure Rg1 (n : Int) : Prop where
  lo : -1000000 ≤ n
  hi : n ≤ 1000000
structure Rg2 (m n : Int) : Prop where
  l1 : -1000000 ≤ m
  h1 : m ≤ 1000000
  l2 : -1000000 ≤ n
  h2 : n ≤ 1000000
def rng1 (xs : List D) (k : List D → Prop) : Prop := match xs with
  | [.int n] => Rg1 n ∧ k (rngL 0 n.toNat)
  | _ => False
def rng2 (xs : List D) (k : List D → Prop) : Prop := match xs with
  | [.int m, .int n] => Rg2 m n ∧ k (rngL m (n - m).toNat)
  | _ => False
theorem rng1.of {xs : List D} {k : List D → Prop} (h : rng1 xs k) : ∃ n : Int, xs = [.int n] ∧ Rg1 n ∧ k (rngL 0 n.toNat) := by
  unfold rng1 at h
  split at h
  · exact ⟨_, rfl, h⟩
  · exact h.elim
theorem rng2.of {xs : List D} {k : List D → Prop} (h : rng2 xs k) : ∃ m n : Int, xs = [.int m, .int n] ∧ Rg2 m n ∧ k (rngL m (n - m).toNat) := by
  unfold rng2 at h
  split at h
  · exact ⟨_, _, rfl, h⟩
  · exact h.elim
theorem RpA.ints1 {K : PySem.W.Frag} {G : Hp} {vs : List V} {n : Int} (h : RpA K G vs [.int n]) : vs = [.int n] := by
  cases h with
  | cons h1 h2 => cases h1; cases h2; rfl
def dForR1 (dg : DG) (dd : DA) (sb : DS) : DS := fun E ρ T => dd ρ T (fun xs T1 => rng1 xs fun ds => forL dg sb E ds ρ T1) (fun x T1 => E.ex x ρ T1)
def dForR2 (dg : DG) (dd : DA) (sb : DS) : DS := fun E ρ T => dd ρ T (fun xs T1 => rng2 xs fun ds => forL dg sb E ds ρ T1) (fun x T1 => E.ex x ρ T1)
theorem for_rng {K : PySem.W.Frag} {E : DX} {D : Ends} {T1 : Sto} {G1 H1 : Hp} {ρ : Env} {σ : L2.St} {lo : Int} {n : Nat} (c : Ctx K T1 G1 H1) (ok : EnvOk K G1 σ ρ) (l : Lk K W T1 G1 H1 E D) (h : forL dg sb E (rngL lo n) ρ T1) :
    ∃ Wv : Nat → Nat → L2.St → Hp → Prop, (∃ m, Wv 0 m σ H1) ∧ ∀ i m σ H, Wv i m σ H →
      ((Itr lo n).stop i H ∧ D.nx σ H) ∨ ((Itr lo n).go i H ∧ ∃ N : L2.St → Hp → Prop, (∀ σ' H', N σ' H' → ∃ m', m' < m ∧ Wv (i + 1) m' σ' H') ∧ ∀ x H', (Itr lo n).yld i H x H' → canG K W dg x σ H' fun σ2 H2 => canS K W sb { D with nx := N, ct := N, bk := D.nx } σ2 H2) :=
  for_range (lo := lo) (n := n) (Pv K dg sb E (rngL lo n) T1 G1 H1) ⟨T1, G1, ρ, .refl c, ok, h⟩ (fun i σ' H' hi hp => Pv.turn l (rngL_get n i lo hi) hp fun G' s => .int _) fun σ' H' hp => by
    have e := rngL_length n lo
    have hp' : Pv K dg sb E (rngL lo n) T1 G1 H1 (rngL lo n).length σ' H' := by rw [e]; exact hp
    exact Pv.done l hp'
theorem pds_forR1 {dd : DA} (po : PassesOwn (model X.prog X.w) X.A X.env X.xe) (hc : X.calm = true) (hgl : Gl X "range") (hm : X.mg "range" = none) (ha : PA X [a] (canA X.K W dd)) (hg : PG X tg (canG X.K W dg)) (hb : PSs X body (canS X.K W sb))
    (hs : starEach [a] X.env = [(false, eval a X.env)] := by rfl) : PS X (.For tg (.Call (.Name "range" p) [a] [] pos') body [] pos) (canS X.K W (dForR1 dg dd sb)) :=
  PS.imp (ps_for po hc (pi_range1 hgl hm ha hs) hg hb (by intro _; rfl)) fun D σ H ⟨T, G, ρ, E, c, ok, h, l⟩ => by
    refine ⟨T, G, ρ, _, _, c, ok, h, fun xs T1 vs G1 H1 h1 g1 r1 => ?_, l.exE ok⟩
    obtain ⟨n, rfl, hn, h1⟩ := rng1.of h1
    rw [r1.ints1]
    have l0 := hn.lo
    have l1 := hn.hi
    exact ⟨n, rfl, by omega, by omega, for_rng g1.ctx (ok.up g1.sub) (l.up g1) h1⟩
/-- for i, x in enumerate(..) -/
def enumL : Int → List D → List D
  | _, [] => []
  | i, d :: ds => .tup [.int i, d] :: enumL (i + 1) ds
theorem enumL_length : ∀ (ds : List D) (i : Int), (enumL i ds).length = ds.length
  | [], _ => rfl
  | d :: ds, i => by show (enumL (i + 1) ds).length + 1 = ds.length + 1; rw [enumL_length ds]
theorem enumL_get : ∀ (ds : List D) (i : Nat) (k : Int) (d : D), ds[i]? = some d → (enumL k ds)[i]? = some (.tup [.int (k + i), d])
  | [], i, k, d, h => by simp at h
  | x :: ds, 0, k, d, h => by simp at h; subst h; simp [enumL]
  | x :: ds, i + 1, k, d, h => by
    have ih := enumL_get ds i (k + 1) d (by simpa using h)
    show (enumL (k + 1) ds)[i]? = _
    rw [ih]
    congr 4
    omega
def frozL : D → Option (List D)
  | .lst ds => some ds
  | .scr ns => some (ns.map .int)
  | _ => none
theorem frozL.rd {K : PySem.W.Frag} {G : Hp} {d : D} {v : V} {ds : List D} (r : Rp K G v d) (e : frozL d = some ds) : ∃ a vs, v = .ref a ∧ SqL K G a vs ∧ RpA K G vs ds := by
  cases r with
  | lst h1 h2 => cases e; exact ⟨_, _, rfl, .of h1, h2⟩
  | scr h1 => cases e; exact ⟨_, _, rfl, h1, RpA.ints _⟩
  | _ => cases e
def dForE (dg : DG) (dd : DA) (sb : DS) : DS := fun E ρ T => dd ρ T (fun xs T1 => one xs fun x => optK (frozL x) fun ds => forL dg sb E (enumL 0 ds) ρ T1) (fun x T1 => E.ex x ρ T1)
theorem pds_forE {dd : DA} {elts : List Expr} {kk : Nat} {tpos : Pos} (po : PassesOwn (model X.prog X.w) X.A X.env X.xe) (hc : X.calm = true) (hgl : Gl X "enumerate") (hm : X.mg "enumerate" = none) (ha : PA X [a] (canA X.K W dd)) (hg : PG X (.Tuple elts kk tpos) (canG X.K W dg)) (hb : PSs X body (canS X.K W sb))
    (hs : starEach [a] X.env = [(false, eval a X.env)] := by rfl) : PS X (.For (.Tuple elts kk tpos) (.Call (.Name "enumerate" p) [a] [] pos') body [] pos) (canS X.K W (dForE dg dd sb)) :=
  PS.imp (ps_for po hc (pi_enum hgl hm ha hs) hg hb (by intro _; rfl)) fun D σ H ⟨T, G, ρ, E, c, ok, h, l⟩ => by
    refine ⟨T, G, ρ, _, _, c, ok, h, fun xs T1 vs G1 H1 h1 g1 r1 => ?_, l.exE ok⟩
    obtain ⟨x, rfl, h8⟩ := one.of h1
    obtain ⟨v, rfl, r9⟩ := r1.one
    obtain ⟨ds, ef, h9⟩ := optK.of h8
    obtain ⟨a, vs, rfl, hq, hr⟩ := frozL.rd r9 ef
    have l1 := l.up g1
    refine ⟨a, vs, rfl, g1.ctx.sub.seq hq, fun i m σ' H' => Pv X.K dg sb E (enumL 0 ds) T1 G1 H1 i σ' H' ∧ i + m = ds.length, ⟨ds.length, ⟨T1, G1, ρ, .refl g1.ctx, ok.up g1.sub, h9⟩, by omega⟩, fun i m σ' H' hW => ?_⟩
    obtain ⟨hp, em⟩ := hW
    have hqv : SqL X.K H' a vs := by
      obtain ⟨T', G', ρ', g, _, _⟩ := hp
      exact (g.sub.trans g.ctx.sub).seq hq
    by_cases hi : i < ds.length
    · have hi2 : i < vs.length := by rw [hr.length]; exact hi
      refine .inr ⟨⟨vs, vs[i], hqv, List.getElem?_eq_getElem hi2⟩, Pv X.K dg sb E (enumL 0 ds) T1 G1 H1 (i + 1), fun σ2 H2 h2 => ⟨m - 1, by omega, h2, by omega⟩, fun v H2 hy => ?_⟩
      obtain ⟨Ta, y, rfl, nT, rfl, fy⟩ := hy
      have ey := fy vs hqv
      obtain ⟨d, ed, rd⟩ := hr.getV ey
      obtain ⟨T', G', ρ', g, ok', hf⟩ := hp
      have gn := g.ctx.new (o := .tup [.int (i : Nat), y]) nT
      have e2 := enumL_get ds i 0 d ed
      rw [drop_cons e2] at hf
      have e0 : (0 : Int) + (i : Int) = (i : Int) := by omega
      rw [e0] at hf
      refine ⟨T', _, ρ', _, _, _, gn.ctx, ok'.up gn.sub, .tup (.of upd_same) (.cons (.int _) (.cons (rd.up (g.sub.trans gn.sub)) .nil)), hf, fun ρ2 T2 σ2 G2 H2 h2 g2 ok2 => ?_, ((l1.up g).up gn).exE (ok'.up gn.sub)⟩
      have gg := (g.trans gn).trans g2
      refine ⟨T2, G2, ρ2, _, g2.ctx, ok2, h2, ⟨fun ρ3 T3 σ3 G3 H3 h3 g3 ok3 => ⟨T3, G3, ρ3, gg.trans g3, ok3, h3⟩, (l1.up gg).rt, (l1.up gg).nx, fun ρ3 T3 σ3 G3 H3 h3 g3 ok3 => ⟨T3, G3, ρ3, gg.trans g3, ok3, h3⟩, (l1.up gg).ex⟩⟩
    · refine .inl ⟨⟨vs, hqv, by rw [hr.length]; omega⟩, ?_⟩
      have ei : i = (enumL 0 ds).length := by rw [enumL_length]; omega
      rw [ei] at hp
      exact Pv.done l1 hp
/-- while -/
def dWhile (t : DT) (sb : DS) : DS := fun E ρ T => ∃ I : Nat → Env → Sto → Prop, (∃ m, I m ρ T) ∧ ∀ m ρ T, I m ρ T →
  t ρ T (fun b T1 => if b = true then sb { E with nx := fun ρ' T' => ∃ m', m' < m ∧ I m' ρ' T', ct := fun ρ' T' => ∃ m', m' < m ∧ I m' ρ' T', bk := E.nx } ρ T1 else E.nx ρ T1) (fun x T1 => E.ex x ρ T1)
theorem pds_while {c : Expr} {t : DT} (po : PassesOwn (model X.prog X.w) X.A X.env X.xe) (hc : PT X c (canT X.K W t)) (hb : PSs X body (canS X.K W sb)) : PS X (.While c body [] pos) (canS X.K W (dWhile t sb)) :=
  PS.imp (ps_while po hc hb) fun D σ H ⟨T, G, ρ, E, c, ok, h, l⟩ => by
    obtain ⟨I, ⟨m, hm⟩, step⟩ := h
    refine ⟨fun m σ' H' => ∃ T' G' ρ', Gro X.K T G H T' G' H' ∧ EnvOk X.K G' σ' ρ' ∧ I m ρ' T', ⟨m, T, G, ρ, .refl c, ok, hm⟩, fun m σ' H' ⟨T', G', ρ', g, ok', hi⟩ => ?_⟩
    refine ⟨T', G', ρ', _, _, g.ctx, ok', step m ρ' T' hi, fun b T1 G1 H1 h1 g1 => ?_, (l.up g).exE ok'⟩
    cases b with
    | false => exact iteF ((l.up g).nx _ _ _ _ _ (by simpa using h1) g1 (ok'.up g1.sub))
    | true =>
      have gg := g.trans g1
      rw [if_pos rfl] at h1
      refine iteT ⟨fun σ2 H2 => ∃ m', m' < m ∧ ∃ T2 G2 ρ2, Gro X.K T G H T2 G2 H2 ∧ EnvOk X.K G2 σ2 ρ2 ∧ I m' ρ2 T2, fun σ2 H2 ⟨m', q1, q2⟩ => ⟨m', q1, q2⟩, ?_⟩
      refine ⟨T1, G1, ρ', _, g1.ctx, ok'.up g1.sub, h1, ⟨fun ρ3 T3 σ3 G3 H3 h3 g3 ok3 => ?_, (l.up gg).rt, (l.up gg).nx, fun ρ3 T3 σ3 G3 H3 h3 g3 ok3 => ?_, (l.up gg).ex⟩⟩
      · obtain ⟨m', q1, q2⟩ := h3
        exact ⟨m', q1, T3, G3, ρ3, gg.trans g3, ok3, q2⟩
      · obtain ⟨m', q1, q2⟩ := h3
        exact ⟨m', q1, T3, G3, ρ3, gg.trans g3, ok3, q2⟩
end
end SY

namespace SY
open PySem PySem.Spec PyProof.Rows L2
section
variable {K : PySem.W.Frag} {T T1 T2 : Sto} {G G1 G2 H H1 H2 : Hp}
/-- a thing that nothing is told of -/
theorem Gro.junk (g : Gro K T1 G1 H1 T2 G2 H2) {p : Addr} {o : HO} (h1 : H1 p = none) (gp : G2 p = none) (tp : T2 p = none) : Gro K T1 G1 H1 T2 G2 (upd H2 p o) := by
  refine ⟨⟨fun b x e => ?_, fun a m e => ?_⟩, g.sub, fun a x t e => ?_, g.fresh⟩
  · rw [upd_ne (ne_of_none e gp)]; exact g.ctx.sub b x e
  · obtain ⟨q, m1⟩ := g.ctx.own a m e
    have ne : a ≠ p := fun z => by subst z; rw [tp] at e; cases e
    exact ⟨q, m1.up (Same.refl _) (by rw [upd_ne ne])⟩
  · rw [upd_ne (ne_of_none e h1)]; exact g.keep a x t e
/-- .. is told at last -/
theorem Gro.tell (g : Gro K T1 G1 H1 T2 G2 H2) {p : Addr} {o : HO} (h1 : H1 p = none) (gp : G2 p = none) (tp : T2 p = none) (h2 : H2 p = some o) : Gro K T1 G1 H1 T2 (upd G2 p o) H2 := by
  have sg : Same G2 (upd G2 p o) := fun b x e => by
    rw [upd_ne (ne_of_none e gp)]
    exact e
  refine ⟨⟨fun b x e => ?_, fun a m e => ?_⟩, g.sub.trans sg, g.keep, fun a h => ?_⟩
  · by_cases hb : b = p
    · subst hb; rw [upd_same] at e; rw [h2]; exact e
    · rw [upd_ne hb] at e; exact g.ctx.sub b x e
  · obtain ⟨q, m1⟩ := g.ctx.own a m e
    have ne : a ≠ p := fun z => by subst z; rw [tp] at e; cases e
    exact ⟨by rw [upd_ne ne]; exact q, m1.up sg rfl⟩
  · by_cases hb : a = p
    · subst hb; exact .inr (.inr h1)
    · rw [upd_ne hb] at h; exact g.fresh a h
end
/-! ### comprehensions -/
abbrev W0 : WX := fun _ _ _ _ => False
def lcL (j : Nat) (de : DE) (ρ0 : Env) (k : List D → Sto → Prop) : List D → List D → Sto → Prop
  | [], acc, T => k acc T
  | d :: ds, acc, T => de (ρ0.set j (some d)) T (fun y T1 => lcL j de ρ0 k ds (acc ++ [y]) T1) (fun _ _ => False)
def lcI (j : Nat) (dt : DT) (de : DE) (ρ0 : Env) (k : List D → Sto → Prop) : List D → List D → Sto → Prop
  | [], acc, T => k acc T
  | d :: ds, acc, T => dt (ρ0.set j (some d)) T (fun b T1 => if b = true then de (ρ0.set j (some d)) T1 (fun y T2 => lcI j dt de ρ0 k ds (acc ++ [y]) T2) (fun _ _ => False) else lcI j dt de ρ0 k ds acc T1) (fun _ _ => False)
theorem set_set {α : Type} : ∀ (l : List α) (i : Nat) (a b : α), (l.set i a).set i b = l.set i b
  | [], _, _, _ => rfl
  | x :: l, 0, _, _ => rfl
  | x :: l, i + 1, a, b => by simp [set_set l i a b]
def JOk (K : PySem.W.Frag) (G1 : Hp) (ds : List D) (J : It) : Prop := ∀ (i : Nat) (H : Hp), Same G1 H → (i < ds.length → J.go i H ∧ ∀ x H', J.yld i H x H' → H' = H ∧ ∃ d, ds[i]? = some d ∧ Rp K G1 x d) ∧ (ds.length ≤ i → J.stop i H)
theorem lc_gen {K : PySem.W.Frag} {W : WX} {de : DE} {j : Nat} {J : It} {T1 : Sto} {G1 H1 : Hp} {σ : L2.St} {ρ : Env} {ds : List D} {k : List D → Sto → Prop} {Q : VK} (c : Ctx K T1 G1 H1) (ok : EnvOk K G1 σ ρ) (jo : JOk K G1 ds J) (hz : ds.length ≤ 1000000)
    (h : lcL j de (ρ.set j none) k ds [] T1) (l : LkV K T1 G1 H1 (fun d T => ∃ acc, d = .lst acc ∧ k acc T) Q) :
    ∀ Da, H1 Da = none → ∃ Wv : Nat → Nat → Hp → Prop, (∃ m, Wv 0 m (upd H1 Da (.lst []))) ∧ ∀ i m H, Wv i m H →
      (J.stop i H ∧ Q (.ref Da) H) ∨ (J.go i H ∧ ∃ Nx : Hp → Prop, (∀ H', Nx H' → ∃ m', m' < m ∧ Wv (i + 1) m' H') ∧ ∀ x H', J.yld i H x H' → gName j x (wipe σ [j]) H' fun σ2 H2 => wipe σ2 [j] = wipe σ [j] ∧ tYes σ2 H2 fun b H3 =>
        if b = true then can K W0 de σ2 H3 fun y H4 => ∃ acc, H4 Da = some (.lst acc) ∧ acc.length < sizeLine ∧ Nx (upd H4 Da (.lst (acc ++ [y]))) else Nx H3) := by
  intro Da hD
  have gD : G1 Da = none := by
    cases q : G1 Da with
    | none => rfl
    | some o => rw [c.sub _ _ q] at hD; cases hD
  have tD : T1 Da = none := none_of_new c hD
  let Wv : Nat → Nat → Hp → Prop := fun i m H => ∃ T' G' acc accV, Gro K T1 G1 H1 T' G' H ∧ H Da = some (.lst accV) ∧ G' Da = none ∧ T' Da = none ∧ RpA K G' accV acc ∧ lcL j de (ρ.set j none) k (ds.drop i) acc T' ∧ acc.length = i ∧ i + m = ds.length
  refine ⟨Wv, ⟨ds.length, T1, G1, [], [], (Gro.refl c).junk hD gD tD, upd_same, gD, tD, .nil, h, rfl, by omega⟩, fun i m H hW => ?_⟩
  obtain ⟨T', G', acc, accV, g, eD, gD', tD', ra, hl, ei, em⟩ := hW
  have sH : Same G1 H := g.sub.trans g.ctx.sub
  obtain ⟨j1, j2⟩ := jo i H sH
  by_cases hi : i < ds.length
  · obtain ⟨go, yl⟩ := j1 hi
    refine .inr ⟨go, fun H' => ∃ m', m' < m ∧ Wv (i + 1) m' H', fun H' z => z, fun x H' hy => ?_⟩
    obtain ⟨rfl, d, ed, rd⟩ := yl x H' hy
    rw [drop_cons ed] at hl
    show wipe ((wipe σ [j]).set j (some x)) [j] = wipe σ [j] ∧ _
    refine ⟨set_set _ _ _ _ |>.trans (set_set _ _ _ _), ?_⟩
    show can K W0 de ((wipe σ [j]).set j (some x)) H' _
    have ok2 : EnvOk K G' ((wipe σ [j]).set j (some x)) ((ρ.set j none).set j (some d)) := ((ok.up g.sub).unset j none).set (rd.up g.sub)
    refine ⟨T', G', _, _, _, g.ctx, ok2, hl, fun y T2 v2 G2 H2 h2 g2 r2 => ?_, fun x T' G' H' z _ => z⟩
    have e2 : H2 Da = some (.lst accV) := g2.keep _ _ tD' eD
    have n2 : G2 Da = none ∧ T2 Da = none := by
      have nf : ¬ (G2 Da ≠ none ∨ T2 Da ≠ none) := fun z => by
        rcases g2.fresh Da z with z | z | z
        · exact z gD'
        · exact z tD'
        · rw [z] at eD; cases eD
      constructor
      · cases q : G2 Da with
        | none => rfl
        | some o => exact absurd (.inl (by rw [q]; exact fun z => by cases z)) nf
      · cases q : T2 Da with
        | none => rfl
        | some o => exact absurd (.inr (by rw [q]; exact fun z => by cases z)) nf
    refine ⟨accV, e2, ?_, m - 1, by omega, T2, G2, acc ++ [y], accV ++ [v2], (g.trans g2).junk hD n2.1 n2.2, upd_same, n2.1, n2.2, (ra.up g2.sub).append (.cons r2 .nil), h2, by simp [ei], by omega⟩
    rw [ra.length, ei]
    exact Nat.lt_of_lt_of_le hi (size_le hz)
  · refine .inl ⟨j2 (by omega), ?_⟩
    have e0 : ds.drop i = [] := List.drop_eq_nil_of_le (by omega)
    rw [e0] at hl
    have g3 := g.tell hD gD' tD' eD
    refine l _ _ _ _ _ ⟨acc, rfl, hl⟩ g3 (.lst upd_same (ra.up ?_))
    intro b x e
    rw [upd_ne (ne_of_none e gD')]
    exact e
theorem jok_list {K : PySem.W.Frag} {G1 : Hp} {ds : List D} {vs : List V} {a : Addr} (hs : SqL K G1 a vs) (hr : RpA K G1 vs ds) : JOk K G1 ds (Itl K a) := fun i H s => by
  refine ⟨fun hi => ⟨?_, fun x H' hy => ?_⟩, fun hi => ⟨vs, s.seq hs, by rw [hr.length]; exact hi⟩⟩
  · have hi2 : i < vs.length := by rw [hr.length]; exact hi
    exact ⟨vs, vs[i], s.seq hs, List.getElem?_eq_getElem hi2⟩
  · obtain ⟨rfl, f⟩ := hy
    obtain ⟨d, ed, rd⟩ := hr.getV (f vs (s.seq hs))
    exact ⟨rfl, d, ed, rd⟩
theorem jok_tup {K : PySem.W.Frag} {G1 : Hp} {ds : List D} {vs : List V} {a : Addr} (hs : SqT K G1 a vs) (hr : RpA K G1 vs ds) : JOk K G1 ds (Itt K a) := fun i H s => by
  refine ⟨fun hi => ⟨?_, fun x H' hy => ?_⟩, fun hi => ⟨vs, Same.seqT s hs, by rw [hr.length]; exact hi⟩⟩
  · have hi2 : i < vs.length := by rw [hr.length]; exact hi
    exact ⟨vs, vs[i], Same.seqT s hs, List.getElem?_eq_getElem hi2⟩
  · obtain ⟨rfl, f⟩ := hy
    obtain ⟨d, ed, rd⟩ := hr.getV (f vs (Same.seqT s hs))
    exact ⟨rfl, d, ed, rd⟩
theorem jok_rng {K : PySem.W.Frag} {G1 : Hp} {lo : Int} {n : Nat} : JOk K G1 (rngL lo n) (Itr lo n) := fun i H s => by
  rw [rngL_length]
  refine ⟨fun hi => ⟨hi, fun x H' hy => ?_⟩, fun hi => hi⟩
  obtain ⟨rfl, rfl⟩ := hy
  exact ⟨rfl, _, rngL_get n i lo hi, .int _⟩
section
variable {X : Cx} {W : WX} {a b e elt iter : Expr} {da db de : DE} {pos pos' tpos : Pos} {x : Str} {p : Pos} {j : Nat} {scope : Scope} {own : List (Str × Nat)}
/-- [elt for x in ..]: over a list or a tuple, over a range -/
def dLc (j : Nat) (da de : DE) : DE := fun ρ T P X => da ρ T (fun x T1 => optK (frozen x) fun ds => ds.length ≤ 1000000 ∧ lcL j de (ρ.set j none) (fun acc T2 => P (.lst acc) T2) ds [] T1) X
def dLcR (j : Nat) (dd : DA) (de : DE) : DE := fun ρ T P X => dd ρ T (fun xs T1 => rng1 xs fun ds => lcL j de (ρ.set j none) (fun acc T2 => P (.lst acc) T2) ds [] T1) X
theorem le_lc : ∀ σ H Q, can X.K W (dLc j da de) σ H Q → tLc (iSeq X.K (can X.K W da)) (gName j) tYes (can X.K W0 de) [j] σ H Q := fun σ H Q ⟨T, G, ρ, P, Xp, c, ok, h, k, kx⟩ => by
  refine can_mk c ok h (fun d T1 v G1 H1 h1 g1 r1 => ?_) kx
  obtain ⟨ds, ef, hz, h1⟩ := optK.of h1
  obtain ⟨a, vs, rfl, hs, hr⟩ := frozen.rd r1 ef
  refine ⟨a, rfl, ?_⟩
  have l : LkV X.K T1 G1 H1 (fun d T => ∃ acc, d = .lst acc ∧ P (.lst acc) T) Q := fun d T2 v2 G2 H2 ⟨acc, e, q⟩ g2 r2 => by
    subst e
    exact k _ _ _ _ _ q (g1.trans g2) r2
  rcases hs with hs | hs
  · exact .inl ⟨⟨vs, g1.ctx.sub.seq hs⟩, lc_gen (W := W) g1.ctx (ok.up g1.sub) (jok_list hs hr) hz h1 l⟩
  · exact .inr ⟨⟨vs, Same.seqT g1.ctx.sub hs⟩, lc_gen (W := W) g1.ctx (ok.up g1.sub) (jok_tup hs hr) hz h1 l⟩
theorem le_lcR {dd : DA} : ∀ σ H Q, can X.K W (dLcR j dd de) σ H Q → tLc (iRng1 (canA X.K W dd)) (gName j) tYes (can X.K W0 de) [j] σ H Q := fun σ H Q ⟨T, G, ρ, P, Xp, c, ok, h, k, kx⟩ => by
  refine ⟨T, G, ρ, _, _, c, ok, h, fun xs T1 vs G1 H1 h1 g1 r1 => ?_, kx⟩
  obtain ⟨n, rfl, hn, h1⟩ := rng1.of h1
  rw [r1.ints1]
  have l : LkV X.K T1 G1 H1 (fun d T => ∃ acc, d = .lst acc ∧ P (.lst acc) T) Q := fun d T2 v2 G2 H2 ⟨acc, e, q⟩ g2 r2 => by
    subst e
    exact k _ _ _ _ _ q (g1.trans g2) r2
  have l0 := hn.lo
  have l1 := hn.hi
  refine ⟨n, rfl, by omega, by omega, lc_gen (W := W) g1.ctx (ok.up g1.sub) jok_rng ?_ h1 l⟩
  rw [rngL_length]
  omega
theorem pd_lc (hc : X.calm = true) (hN : X.N.Nodup) (ha : PE X iter (can X.K W da)) (ok : BlkOk X.N X.env.scope scope [(x, j)])
    (hg : ∀ (s : Shared) (H : Hp) (C : Addr) (cl : List (Str × Addr)) (fp : List Addr), PG (X.blk s H scope (compEnvC scope cl C X.env) fp) (.Name x tpos) (gName j))
    (he : ∀ (s : Shared) (H : Hp) (C : Addr) (cl : List (Str × Addr)) (fp : List Addr), PE (X.blk s H scope (compEnvC scope cl C X.env) fp) elt (can X.K W0 de)) (hs : ∀ x, foldedSetIterable iter X.env x = pure x := by intro _; rfl) :
    PE X (.ListComp elt [⟨.Name x tpos, iter, [], 0⟩] scope pos) (can X.K W (dLc j da de)) := PE.imp (pe_lc (own := [(x, j)]) hc hN (pi_seq ha) ok hg (fun _ _ _ _ _ => pts_nil) he hs) le_lc
theorem pd_lcR {dd : DA} (hc : X.calm = true) (hN : X.N.Nodup) (hgl : Gl X "range") (hm : X.mg "range" = none) (ha : PA X [a] (canA X.K W dd)) (ok : BlkOk X.N X.env.scope scope [(x, j)])
    (hg : ∀ (s : Shared) (H : Hp) (C : Addr) (cl : List (Str × Addr)) (fp : List Addr), PG (X.blk s H scope (compEnvC scope cl C X.env) fp) (.Name x tpos) (gName j))
    (he : ∀ (s : Shared) (H : Hp) (C : Addr) (cl : List (Str × Addr)) (fp : List Addr), PE (X.blk s H scope (compEnvC scope cl C X.env) fp) elt (can X.K W0 de)) (hs : starEach [a] X.env = [(false, eval a X.env)] := by rfl) :
    PE X (.ListComp elt [⟨.Name x tpos, .Call (.Name "range" p) [a] [] pos', [], 0⟩] scope pos) (can X.K W (dLcR j dd de)) := PE.imp (pe_lc (own := [(x, j)]) hc hN (pi_range1 hgl hm ha hs) ok hg (fun _ _ _ _ _ => pts_nil) he (by intro _; rfl)) le_lcR
theorem asg_le {t t' : TE} {i : Nat} (h : ∀ σ H Q, t' σ H Q → t σ H Q) : ∀ D σ H, tAsg t' (gName i) D σ H → tAsg t (gName i) D σ H := fun D σ H q => h σ H _ q
theorem asg_can {i : Nat} : ∀ D σ H, canS X.K W (dAsg de i) D σ H → tAsg (can X.K W de) (gName i) D σ H := fun D σ H ⟨T, G, ρ, E, c, ok, h, l⟩ =>
  can_mk c ok h (fun d T1 v G1 H1 h1 g1 r1 => l.nx _ _ _ _ _ h1 g1 ((ok.up g1.sub).set r1)) (l.exE ok)
theorem pds_setLc {i : Nat} {y : Str} {py : Pos} (hc : X.calm = true) (hN : X.N.Nodup) (hy : X.N[i]? = some y) (hyl : X.env.scope.names.lookup y = some .local)
    (hsw : swapsWith (.ListComp elt [⟨.Name x tpos, iter, [], 0⟩] scope pos') (some (.Name y py)) pos.line X.env = pure true) (ha : PE X iter (can X.K W da)) (ok : BlkOk X.N X.env.scope scope [(x, j)])
    (hg : ∀ (s : Shared) (H : Hp) (C : Addr) (cl : List (Str × Addr)) (fp : List Addr), PG (X.blk s H scope (compEnvC scope cl C X.env) fp) (.Name x tpos) (gName j))
    (he : ∀ (s : Shared) (H : Hp) (C : Addr) (cl : List (Str × Addr)) (fp : List Addr), PE (X.blk s H scope (compEnvC scope cl C X.env) fp) elt (can X.K W0 de)) (hs : ∀ x, foldedSetIterable iter X.env x = pure x := by intro _; rfl) :
    PS X (.Assign [.Name y py] (.ListComp elt [⟨.Name x tpos, iter, [], 0⟩] scope pos') pos) (canS X.K W (dAsg (dLc j da de) i)) :=
  PS.imp (ps_setLc (own := [(x, j)]) hc hN hy hyl hsw (pi_seq ha) ok hg (fun _ _ _ _ _ => pts_nil) he hs) fun D σ H q => asg_le le_lc D σ H (asg_can D σ H q)
theorem pds_setLcR {i : Nat} {y : Str} {py ppos : Pos} {dd : DA} (hc : X.calm = true) (hN : X.N.Nodup) (hy : X.N[i]? = some y) (hyl : X.env.scope.names.lookup y = some .local)
    (hsw : swapsWith (.ListComp elt [⟨.Name x tpos, .Call (.Name "range" p) [a] [] ppos, [], 0⟩] scope pos') (some (.Name y py)) pos.line X.env = pure true) (hgl : Gl X "range") (hm : X.mg "range" = none) (ha : PA X [a] (canA X.K W dd)) (ok : BlkOk X.N X.env.scope scope [(x, j)])
    (hg : ∀ (s : Shared) (H : Hp) (C : Addr) (cl : List (Str × Addr)) (fp : List Addr), PG (X.blk s H scope (compEnvC scope cl C X.env) fp) (.Name x tpos) (gName j))
    (he : ∀ (s : Shared) (H : Hp) (C : Addr) (cl : List (Str × Addr)) (fp : List Addr), PE (X.blk s H scope (compEnvC scope cl C X.env) fp) elt (can X.K W0 de)) (hs : starEach [a] X.env = [(false, eval a X.env)] := by rfl) :
    PS X (.Assign [.Name y py] (.ListComp elt [⟨.Name x tpos, .Call (.Name "range" p) [a] [] ppos, [], 0⟩] scope pos') pos) (canS X.K W (dAsg (dLcR j dd de) i)) :=
  PS.imp (ps_setLc (own := [(x, j)]) hc hN hy hyl hsw (pi_range1 hgl hm ha hs) ok hg (fun _ _ _ _ _ => pts_nil) he (by intro _; rfl)) fun D σ H q => asg_le le_lcR D σ H (asg_can D σ H q)
end
/-! ### a def -/
def startD (N : List Str) (us : List D) : Env := us.map some ++ List.replicate (N.length - us.length) none
theorem RpA.begins {K : PySem.W.Frag} {G : Hp} {vs : List V} {us : List D} (r : RpA K G vs us) (N : List Str) : EnvOk K G (L2.start N vs) (startD N us) := by
  refine ⟨by unfold L2.start startD; simp [r.length], fun i d e => ?_⟩
  unfold startD at e
  unfold L2.start
  by_cases hi : i < us.length
  · rw [List.getElem?_append_left (by simpa using hi), List.getElem?_map] at e
    rw [List.getElem?_append_left (by simpa [r.length] using hi), List.getElem?_map]
    cases q : us[i]? with
    | none => rw [q] at e; cases e
    | some u =>
      rw [q] at e
      cases e
      obtain ⟨v, q1, q2⟩ := r.get q
      rw [q1]
      exact ⟨v, rfl, q2⟩
  · rw [List.getElem?_append_right (by simpa using hi)] at e
    rw [List.getElem?_replicate] at e
    split at e <;> cases e
/-- less is told at the end: of what is handed back, of what may be changed -/
def Wk (K : PySem.W.Frag) (d : D) (T : Sto) (d' : D) (T' : Sto) : Prop := ∀ G H v, Ctx K T G H → Rp K G v d → ∃ G', Gro K T G H T' G' H ∧ Rp K G' v d'
theorem Wk.refl {K : PySem.W.Frag} {d : D} {T : Sto} : Wk K d T d T := fun G H v c r => ⟨G, .refl c, r⟩
theorem Wk.trans {K : PySem.W.Frag} {d d1 d2 : D} {T T1 T2 : Sto} (a : Wk K d T d1 T1) (b : Wk K d1 T1 d2 T2) : Wk K d T d2 T2 := fun G H v c r => by
  obtain ⟨G1, g1, r1⟩ := a G H v c r
  obtain ⟨G2, g2, r2⟩ := b G1 H v g1.ctx r1
  exact ⟨G2, g1.trans g2, r2⟩
theorem Wk.drop {K : PySem.W.Frag} {d : D} {T T' : Sto} (h : ∀ a m, T' a = some m → T a = some m) : Wk K d T d T' := fun G H v c r => ⟨G, c.less fun a m e => ⟨m, h a m e, fun z => z⟩, r⟩
theorem Wk.freeze {K : PySem.W.Frag} {T : Sto} {p : Addr} {ds : List D} (h : T p = some (.lst ds)) : Wk K (.ptr p) T (.lst ds) (offT T p) := fun G H v c r => by
  cases r
  exact c.freeze h
theorem Wk.row {K : PySem.W.Frag} {d : D} {T : Sto} {p : Addr} {ns : List Int} (h : T p = some (.lst (ns.map .int))) (h0 : ∀ n ∈ ns, 0 ≤ n) (hl : ns.length ≤ 63) : Wk K d T d (updT T p .row) := fun G H v c r => by
  refine ⟨G, c.less fun a m e => ?_, r⟩
  by_cases ha : a = p
  · subst ha
    rw [updT_same] at e
    cases e
    refine ⟨_, h, fun z => ?_⟩
    obtain ⟨vs, q, rr⟩ := z
    rw [RpA.ints_inv rr] at q
    exact ⟨ns, q, h0, hl⟩
  · rw [updT_ne ha] at e
    exact ⟨m, e, fun z => z⟩
/-- the law's row is opened -/
theorem Ctx.open {K : PySem.W.Frag} {T : Sto} {G H : Hp} {p : Addr} (c : Ctx K T G H) (h : T p = some .row) : ∃ ns : List Int, (∀ n ∈ ns, 0 ≤ n) ∧ ns.length ≤ 63 ∧ Ctx K (updT T p (.lst (ns.map .int))) G H := by
  obtain ⟨g, ns, e, h0, hl⟩ := c.own p _ h
  refine ⟨ns, h0, hl, c.sub, fun a m q => ?_⟩
  by_cases ha : a = p
  · subst ha
    rw [updT_same] at q
    cases q
    exact ⟨g, _, e, RpA.ints ns⟩
  · rw [updT_ne ha] at q
    exact c.own a m q
def dend (K : PySem.W.Frag) (P : D → Sto → Prop) (X : Xc → Sto → Prop) : DX where
  nx := fun _ T => ∃ T', Wk K .non T .non T' ∧ P .non T'
  rt := fun d T => ∃ d' T', Wk K d T d' T' ∧ P d' T'
  ex := fun x _ T => ∃ T', Wk K .non T .non T' ∧ X x T'
def dend0 (P : D → Sto → Prop) (X : Xc → Sto → Prop) : DX where
  nx := fun _ T => P .non T
  rt := P
  ex := fun x _ T => X x T
theorem fn_runG {K : PySem.W.Frag} {sp : DSp} {ds : DS} {N : List Str} {vs : List V} {H : Hp} {Q : VK} {E : XK} (h : lift K sp vs H Q E)
    (pure : ∀ us T P X G H, sp us T P X → Ctx K T G H → ∃ T', Ctx K T' G H ∧ (∀ a, T a = none ↔ T' a = none) ∧ ds (dend K P X) (startD N us) T') :
    canS K (fun cls d _ H => E cls d H) ds { nx := fun _ H' => Q .non H', rt := Q } (L2.start N vs) H := by
  obtain ⟨T, G, us, P, X, c, r, h, k, kx⟩ := h
  obtain ⟨T', c', hT, h'⟩ := pure us T P X G H h c
  have gro : ∀ {T2 G2 H2}, Gro K T' G H T2 G2 H2 → Gro K T G H T2 G2 H2 := fun g => ⟨g.ctx, g.sub, fun a o e1 e2 => g.keep a o ((hT a).mp e1) e2, fun a z => by
    rcases g.fresh a z with z | z | z
    · exact .inl z
    · exact .inr (.inl fun q => z ((hT a).mp q))
    · exact .inr (.inr z)⟩
  refine ⟨T', G, _, _, c', r.begins N, h', ⟨fun ρ' T1 σ' G1 H1 ⟨T2, w, q⟩ g ok => ?_, fun d T1 v G1 H1 ⟨d2, T2, w, q⟩ g r1 => ?_, fun ρ' T1 σ' G1 H1 z _ _ => z.elim, fun ρ' T1 σ' G1 H1 z _ _ => z.elim, fun x ρ' T1 σ' G1 H1 ⟨T2, w, q⟩ g ok => ?_⟩⟩
  · obtain ⟨G2, g2, r2⟩ := w G1 H1 .non g.ctx .non
    exact k _ _ _ _ _ q ((gro g).trans g2) r2
  · obtain ⟨G2, g2, r2⟩ := w G1 H1 v g.ctx r1
    exact k _ _ _ _ _ q ((gro g).trans g2) r2
  · obtain ⟨G2, g2, r2⟩ := w G1 H1 .non g.ctx .non
    exact kx _ _ _ _ q ((gro g).trans g2)
theorem fn_run {K : PySem.W.Frag} {sp : DSp} {ds : DS} {N : List Str} {vs : List V} {H : Hp} {Q : VK} {E : XK} (h : lift K sp vs H Q E)
    (pure : ∀ us T P X, sp us T P X → ds (dend K P X) (startD N us) T) :
    canS K (fun cls d _ H => E cls d H) ds { nx := fun _ H' => Q .non H', rt := Q } (L2.start N vs) H :=
  fn_runG h fun us T P X G H q c => ⟨T, c, fun _ => Iff.rfl, pure us T P X q⟩
theorem fn_run0 {K : PySem.W.Frag} {sp : DSp} {ds : DS} {N : List Str} {vs : List V} {H : Hp} {Q : VK} {E : XK} (h : lift K sp vs H Q E)
    (pure : ∀ us T P X, sp us T P X → ds (dend0 P X) (startD N us) T) :
    canS K (fun cls d _ H => E cls d H) ds { nx := fun _ H' => Q .non H', rt := Q } (L2.start N vs) H := by
  obtain ⟨T, G, us, P, X, c, r, h, k, kx⟩ := h
  exact ⟨T, G, _, _, c, r.begins N, pure us T P X h, ⟨fun ρ' T1 σ' G1 H1 q g ok => k _ _ _ _ _ q g .non, k, fun ρ' T1 σ' G1 H1 z _ _ => z.elim, fun ρ' T1 σ' G1 H1 z _ _ => z.elim, fun x ρ' T1 σ' G1 H1 q g ok => kx _ _ _ _ q g⟩⟩
def sp1 (f : D → Sto → (D → Sto → Prop) → (Xc → Sto → Prop) → Prop) : DSp := fun us T P X => match us with | [a] => f a T P X | _ => False
def sp2 (f : D → D → Sto → (D → Sto → Prop) → (Xc → Sto → Prop) → Prop) : DSp := fun us T P X => match us with | [a, b] => f a b T P X | _ => False
def sp3 (f : D → D → D → Sto → (D → Sto → Prop) → (Xc → Sto → Prop) → Prop) : DSp := fun us T P X => match us with | [a, b, c] => f a b c T P X | _ => False
def sp4 (f : D → D → D → D → Sto → (D → Sto → Prop) → (Xc → Sto → Prop) → Prop) : DSp := fun us T P X => match us with | [a, b, c, d] => f a b c d T P X | _ => False
theorem sp1.of {f us T P X} (h : sp1 f us T P X) : ∃ a, us = [a] ∧ f a T P X := by
  unfold sp1 at h
  split at h
  · exact ⟨_, rfl, h⟩
  · exact h.elim
theorem sp2.of {f us T P X} (h : sp2 f us T P X) : ∃ a b, us = [a, b] ∧ f a b T P X := by
  unfold sp2 at h
  split at h
  · exact ⟨_, _, rfl, h⟩
  · exact h.elim
theorem sp3.of {f us T P X} (h : sp3 f us T P X) : ∃ a b c, us = [a, b, c] ∧ f a b c T P X := by
  unfold sp3 at h
  split at h
  · exact ⟨_, _, _, rfl, h⟩
  · exact h.elim
theorem sp4.of {f us T P X} (h : sp4 f us T P X) : ∃ a b c d, us = [a, b, c, d] ∧ f a b c d T P X := by
  unfold sp4 at h
  split at h
  · exact ⟨_, _, _, _, rfl, h⟩
  · exact h.elim
theorem lift_len {K : PySem.W.Frag} {sp : DSp} {n : Nat} (h : ∀ us T P X, sp us T P X → us.length = n) : ∀ vs H Q E, lift K sp vs H Q E → vs.length = n := fun vs H Q E ⟨T, G, us, P, X, c, r, q, _⟩ => r.length.trans (h us T P X q)
theorem sp1.len {f} : ∀ us T P X, sp1 f us T P X → us.length = 1 := fun us T P X h => by obtain ⟨a, rfl, _⟩ := sp1.of h; rfl
theorem sp2.len {f} : ∀ us T P X, sp2 f us T P X → us.length = 2 := fun us T P X h => by obtain ⟨a, b, rfl, _⟩ := sp2.of h; rfl
theorem sp3.len {f} : ∀ us T P X, sp3 f us T P X → us.length = 3 := fun us T P X h => by obtain ⟨a, b, c, rfl, _⟩ := sp3.of h; rfl
theorem sp4.len {f} : ∀ us T P X, sp4 f us T P X → us.length = 4 := fun us T P X h => by obtain ⟨a, b, c, d, rfl, _⟩ := sp4.of h; rfl
end SY

namespace SY
open PySem PySem.Spec PyProof.Rows L2
/-- a promise that is not opened by itself -/
noncomputable def lock (s : DSp) : DSp := Classical.choose (⟨s, rfl⟩ : ∃ t, t = s)
theorem lock_eq (s : DSp) : lock s = s := Classical.choose_spec (⟨s, rfl⟩ : ∃ t, t = s)
theorem lock_at {s : DSp} {us : List D} {T : Sto} {P : D → Sto → Prop} {X : Xc → Sto → Prop} (h : s us T P X) : lock s us T P X := by rw [lock_eq]; exact h
theorem lock_of {s : DSp} {us : List D} {T : Sto} {P : D → Sto → Prop} {X : Xc → Sto → Prop} (h : lock s us T P X) : s us T P X := by rw [lock_eq] at h; exact h
theorem lenL {s : DSp} {n : Nat} (h : ∀ us T P X, s us T P X → us.length = n) : ∀ us T P X, lock s us T P X → us.length = n := fun us T P X q => h us T P X (lock_of q)
/-- a def of the text, where it stands -/
structure FT (K : PySem.W.Frag) (mg : Str → Option Value) (x : Str) (st : Stmt) (ps : List Str) : Prop where
  mk ::
  ex : ∃ f fd, Fun K x x st f fd ∧ mg x = some (.ref f) ∧ Binds K fd ps []
/-- a def that keeps its promise -/
structure Cal (P : Program) (w : World) (K : PySem.W.Frag) (mg : Str → Option Value) (base : Heap) (k : Nat) (x : Str) (ps : List Str) (sp : DSp) : Prop where
  ex : ∃ f fd, FnOk P w K mg base (L2.CX P w) k f fd ps (lift K sp) ∧ mg x = some (.ref f) ∧ PySem.W.keepIn K (.ref f) = true ∧ Binds K fd ps []
section
variable {X : Cx} {W : WX} {e : Expr} {pos : Pos}
theorem pd_callC {sp : DSp} {k : Nat} {ps : List Str} {x : Str} {p : Pos} {es : List Expr} {dd : DA}
    (C : Cal X.prog X.w X.K X.mg X.base k x ps sp) (tk : Takes X W) (hr : Room k X.A) (hg : Gl X x)
    (ha : PA X (e :: es) (canA X.K W dd)) (hdb : (x == ("__debug__" : Str)) = false := by decide) (he : starEach (e :: es) X.env = (false, eval e X.env) :: starEach es X.env := by rfl) (hpl : (backTo pos (starEach es X.env)).any (·.1) = false := by rfl) :
    PE X (.Call (.Name x p) (e :: es) [] pos) (can X.K W (dCall sp dd)) := by
  obtain ⟨f, fd, F, hm, hk, hb⟩ := C.ex
  exact pd_call F tk hr hg hm hk hb ha hdb he hpl
end
theorem okL {P : Program} {w : World} {K : PySem.W.Frag} {mg : Str → Option Value} {base : Heap} {x : Str} {st : Stmt} {N ps : List Str} {k : Nat} {sp : DSp} {ds : DS} {f : Addr} {fd : FuncData} (F : Fun K x x st f fd) (S : FnScope N ps (defScope st)) (len : ∀ us T P X, sp us T P X → us.length = ps.length)
    (run : ∀ {vs : List V} {H : Hp} {Q : VK} {E : XK}, lift K sp vs H Q E → canS K (fun cls d _ H => E cls d H) ds { nx := fun _ H' => Q .non H', rt := Q } (L2.start N vs) H)
    (der : ∀ (f : Addr) (cdv : Value) (A : Around) (outer : List PySem.Env) (s : Shared) (H : Hp) (E : XK), Room k (A.deeper (envOfC x (defScope st) s.heap.objs.size f cdv)) →
      Takes (cxOf (L2.CX P w) P w K mg base N x (defScope st) f cdv A outer s H E) (fun cls d _ H => E cls d H) →
      PassesOwn (model P w) (A.deeper (envOfC x (defScope st) s.heap.objs.size f cdv)) (envOfC x (defScope st) s.heap.objs.size f cdv) (cxOf (L2.CX P w) P w K mg base N x (defScope st) f cdv A outer s H E).xe →
      PSs (cxOf (L2.CX P w) P w K mg base N x (defScope st) f cdv A outer s H E) (defBody st) (canS K (fun cls d _ H => E cls d H) ds)) : FnOk P w K mg base (L2.CX P w) (k + 1) f fd ps (lift K sp) :=
  F.okX S (lift_len len) (fun cdv A outer s H vs Q E hr h => ⟨_, der f cdv A outer s H E hr (takes_of rfl rfl rfl rfl) (passes_of rfl), run h⟩)
theorem okF {P : Program} {w : World} {K : PySem.W.Frag} {mg : Str → Option Value} {base : Heap} {x : Str} {st : Stmt} {N ps : List Str} {k : Nat} {sp : DSp} {ds : DS} (F : FT K mg x st ps) (S : FnScope N ps (defScope st)) (len : ∀ us T P X, sp us T P X → us.length = ps.length)
    (run : ∀ {vs : List V} {H : Hp} {Q : VK} {E : XK}, lift K sp vs H Q E → canS K (fun cls d _ H => E cls d H) ds { nx := fun _ H' => Q .non H', rt := Q } (L2.start N vs) H)
    (der : ∀ (f : Addr) (cdv : Value) (A : Around) (outer : List PySem.Env) (s : Shared) (H : Hp) (E : XK), Room k (A.deeper (envOfC x (defScope st) s.heap.objs.size f cdv)) →
      Takes (cxOf (L2.CX P w) P w K mg base N x (defScope st) f cdv A outer s H E) (fun cls d _ H => E cls d H) →
      PassesOwn (model P w) (A.deeper (envOfC x (defScope st) s.heap.objs.size f cdv)) (envOfC x (defScope st) s.heap.objs.size f cdv) (cxOf (L2.CX P w) P w K mg base N x (defScope st) f cdv A outer s H E).xe →
      PSs (cxOf (L2.CX P w) P w K mg base N x (defScope st) f cdv A outer s H E) (defBody st) (canS K (fun cls d _ H => E cls d H) ds)) : Cal P w K mg base (k + 1) x ps sp := by
  obtain ⟨f, fd, F, m, b⟩ := F.ex
  exact ⟨f, fd, okL F S len run der, m, F.kp, b⟩
theorem cx_no {P : Program} {w : World} {H : Hp} {s : Shared} {e : Value} {s' : Shared} (h : L2.CX P w [] H s (fun _ _ _ => False) e s') : False := by
  obtain ⟨_, _, _, _, _, _, _, _, _, _, _, _, z⟩ := h
  exact z
/-- what a law is asked -/
noncomputable def sp_law : DSp := lock <| sp1 fun a _ P _ => ∃ ns : List Int, a = .scr ns ∧ ns.length ≤ 63 ∧ (∀ n ∈ ns, Builtin.Int.intBits n ≤ 1048576) ∧ ∀ T', P (.bl true) T'
theorem law_start {K : PySem.W.Frag} {H : Hp} (a : Addr) (ns : List Int) (hl : ns.length ≤ 63) (hb : ∀ z ∈ ns, Builtin.Int.intBits z ≤ 1048576) (hS : SqL K H a (ns.map V.int)) : lift K sp_law [.ref a] H (fun v _ => v = .bl true) fun _ _ _ => False :=
  ⟨fun _ => none, H, [.scr ns], fun d _ => d = .bl true, fun _ _ => False, ⟨Same.refl _, fun _ _ e => by cases e⟩, .cons (.scr hS) .nil, lock_at ⟨ns, rfl, hl, hb, fun _ => rfl⟩, fun d T' v G' H' e _ r => by subst e; cases r; rfl, fun _ _ _ _ h _ => h⟩
end SY

namespace SY
open PySem PySem.Spec PyProof.Rows L2
section
variable {X : Cx} {W : WX} {a b e : Expr} {da db de : DE} {pos pos' : Pos} {st : Stmt} {s1 s2 : DS} {x : Str} {p : Pos}
/-! ### is True, is False -/
def dIsB (b : Bool) (a : DE) : DE := fun ρ T P X => a ρ T (fun x T1 => bl1 x fun c => P (.bl (decide (c = b))) T1) X
def dNotB (b : Bool) (a : DE) : DE := fun ρ T P X => a ρ T (fun x T1 => bl1 x fun c => P (.bl (!decide (c = b))) T1) X
/-! ### a list that may be changed is changed no more -/
def frzK (o : Option D) (T : Sto) (k0 : Prop) (k : D → Sto → Prop) : Prop := match o with
  | some (.ptr a) => optK (mlst (T a)) fun ds => k (.lst ds) (offT T a)
  | _ => k0
def dFrz (i : Nat) (s : DS) : DS := fun E ρ T => frzK (ρ.getD i none) T (s E ρ T) fun d T' => s E (ρ.set i (some d)) T'
/-! ### exceptions -/
def isSub (x y : Str) : Bool := x == y || y == "YardError"
abbrev veT : List Value := [.type "ValueError", .type "Exception", .type "BaseException", .type "object"]
/-- what the text's own classes must say -/
def xfB (K : PySem.W.Frag) (xs : List Str) : Bool := xs.all fun x => match clsA K x with
  | .ref C => PySem.W.excIn K C veT "ValueError.__new__" && PySem.W.keepIn K (.ref C) && PySem.W.subIn K (.ref C) (.type "BaseException") == some true && PySem.W.typeIn K (.ref C) == some (.type "type")
    && PySem.W.findIn K (.ref C) "__getattribute__" == some (some (.builtin "BaseException.__getattribute__")) && PySem.W.findIn K (.ref C) "__getattr__" == some none && PySem.W.hasDictIn K C
    && PySem.W.findIn K (.ref C) "__class__" == some (some (.builtin "object.__class__")) && PySem.W.specialIn K (.builtin "object.__class__") "__get__" == some (some (.builtin "getset_descriptor.__get__"))
    && PySem.W.takesIn K (.builtin "object.__class__") == some true && PySem.W.mroIn K C (.type "object") == some true && PySem.W.kitOne K (.ref C) (.type "ValueError") == some true
    && xs.all fun y => PySem.W.exmOne K (.ref C) (clsA K y) == some (isSub x y) && PySem.W.kitOne K (.ref C) (clsA K y) == some (isSub x y)
  | _ => false
structure XF (K : PySem.W.Frag) (mg : Str → Option Value) (xs : List Str) : Prop where
  b : xfB K xs = true
  m : ∀ x ∈ xs, mg x = some (clsA K x)
structure XC (K : PySem.W.Frag) (mg : Str → Option Value) (xs : List Str) (x : Str) (C : Addr) : Prop where
  cls : clsA K x = .ref C
  g : mg x = some (.ref C)
  ex : PySem.W.excIn K C veT "ValueError.__new__" = true
  kp : PySem.W.keepIn K (.ref C) = true
  sb : PySem.W.subIn K (.ref C) (.type "BaseException") = some true
  ty : PySem.W.typeIn K (.ref C) = some (.type "type")
  cc : ExcC K C
  ve : PySem.W.kitOne K (.ref C) (.type "ValueError") = some true
  xm : ∀ y ∈ xs, PySem.W.exmOne K (.ref C) (clsA K y) = some (isSub x y)
  ki : ∀ y ∈ xs, PySem.W.kitOne K (.ref C) (clsA K y) = some (isSub x y)
theorem XF.at {K : PySem.W.Frag} {mg : Str → Option Value} {xs : List Str} {x : Str} (h : XF K mg xs) (hx : x ∈ xs) : ∃ C, XC K mg xs x C := by
  have q := List.all_eq_true.mp h.b x hx
  split at q
  · rename_i C e
    simp only [Bool.and_eq_true, beq_iff_eq] at q
    obtain ⟨⟨⟨⟨⟨⟨⟨⟨⟨⟨⟨⟨a1, a2⟩, a3⟩, a4⟩, a5⟩, a6⟩, a7⟩, a8⟩, a9⟩, a10⟩, a11⟩, a12⟩, a13⟩ := q
    have z := List.all_eq_true.mp a13
    refine ⟨C, e, (h.m x hx).trans (by rw [e]), a1, a2, a3, a4, ⟨a5, a6, a3, a7, a8, a9, a10, a11⟩, a12, fun y hy => ?_, fun y hy => ?_⟩
    · have z1 := z y hy
      simp only [Bool.and_eq_true, beq_iff_eq] at z1
      exact z1.1
    · have z1 := z y hy
      simp only [Bool.and_eq_true, beq_iff_eq] at z1
      exact z1.2
  · cases q
def dRaise (x : Str) : DS := fun E ρ T => E.ex x ρ T
/-- try: body / except y as n: suite -/
def dTryAs (xs : List Str) (i : Nat) (y : Str) (sb : DS) (su : Addr → Str → DS) : DS := fun E ρ T => sb { E with ex := fun x ρ' T' => xs.contains x = true ∧ if isSub x y = true then ∀ a, T' a = none → su a x { E with nx := fun ρ1 T1 => E.nx (ρ1.set i none) T1, bk := fun ρ1 T1 => E.bk (ρ1.set i none) T1, ct := fun ρ1 T1 => E.ct (ρ1.set i none) T1, ex := fun _ _ _ => False } (ρ'.set i (some (.ptr a))) T' else E.ex x ρ' T' } ρ T
def dTryOnly (xs : List Str) (y : Str) (sb : DS) (su : DS) : DS := fun E ρ T => sb { E with ex := fun x ρ' T' => xs.contains x = true ∧ if isSub x y = true then su { E with ex := fun _ _ _ => False } ρ' T' else E.ex x ρ' T' } ρ T
section
variable {xs : List Str} {i : Nat} {y n : Str} {sb : DS} {su : Addr → Str → DS} {so : DS} {body suite : List Stmt} {b₀ : Stmt} {np : Pos}
end
/-- isinstance(e, y), e the exception that the suite holds -/
def dIsE (i : Nat) (a : Addr) (r : Bool) : DE := fun ρ T P _ => ρ.getD i none = some (.ptr a) ∧ P (.bl r) T
section
variable {xs : List Str} {i : Nat} {y n xc : Str} {a : Addr} {oe : Obj} {pn : List (Addr × Obj)} {p1 p2 : Pos}
end
end
end SY

namespace SY
open PySem PySem.Spec PyProof.Rows L2
section
variable {X : Cx} {W : WX} {a b e elt iter : Expr} {da db de : DE} {pos pos' tpos : Pos} {x : Str} {p : Pos} {j : Nat} {scope : Scope} {own : List (Str × Nat)}
/-- [elt for x in range(..)], a list that may be changed -/
def dLcRM (j : Nat) (dd : DA) (de : DE) : DE := fun ρ T P X => dd ρ T (fun xs T1 => rng1 xs fun ds => lcL j de (ρ.set j none) (fun acc T2 => ∀ p, T2 p = none → P (.ptr p) (updT T2 p (.lst acc))) ds [] T1) X
end
end SY

namespace SY
open PySem PySem.Spec PyProof.Rows L2
section
variable {X : Cx} {W : WX} {a b e : Expr} {da db : DE} {pos p : Pos}
/-! ### what a list that may be changed holds now -/
def thaw (T : Sto) : D → Option D
  | .ptr a => (mlst (T a)).map .lst
  | d => some d
theorem thaw.dp {K : PySem.W.Frag} {T : Sto} {G H : Hp} (c : Ctx K T G H) {d x : D} {v : V} (r : Rp K G v d) (e : thaw T d = some x) (p : plainD x = true) : Dp K H v (py x) := by
  cases r with
  | ptr a =>
    have e' : (mlst (T a)).map D.lst = some x := e
    cases q : mlst (T a) with
    | none => rw [q] at e'; cases e'
    | some ds =>
      rw [q] at e'
      cases e'
      obtain ⟨_, vs, hv, hr⟩ := c.own a _ (mlst.of q)
      exact .lst (.of hv) (RpA.dp c.sub ds vs p hr)
  | non => cases e; exact Rp.dp c.sub _ _ p .non
  | bl b => cases e; exact Rp.dp c.sub _ _ p (.bl b)
  | int b => cases e; exact Rp.dp c.sub _ _ p (.int b)
  | str b => cases e; exact Rp.dp c.sub _ _ p (.str b)
  | tup h1 h2 => cases e; exact Rp.dp c.sub _ _ p (.tup h1 h2)
  | lst h1 h2 => cases e; exact Rp.dp c.sub _ _ p (.lst h1 h2)
  | scr h1 => cases e; exact Rp.dp c.sub _ _ p (.scr h1)
  | dic h1 h2 h3 h4 h5 => cases e; exact Rp.dp c.sub _ _ p (.dic h1 h2 h3 h4 h5)
def dEqM (a b : DE) : DE := fun ρ T P X => a ρ T (fun x T1 => b ρ T1 (fun y T2 => optK (thaw T2 x) fun x' => optK (thaw T2 y) fun y' => (eqOk x' = true ∧ eqOk y' = true) ∧ P (.bl (eqvD x' y')) T2) X) X
def dNeM (a b : DE) : DE := fun ρ T P X => a ρ T (fun x T1 => b ρ T1 (fun y T2 => optK (thaw T2 x) fun x' => optK (thaw T2 y) fun y' => (eqOk x' = true ∧ eqOk y' = true) ∧ P (.bl (!eqvD x' y')) T2) X) X
/-- x in a list -/
def pyl : D → Option (List D)
  | .lst ds => some ds
  | _ => none
def dInD (a b : DE) : DE := fun ρ T P X => a ρ T (fun x T1 => b ρ T1 (fun y T2 => optK (thaw T2 y) fun y' => optK (pyl y') fun ds => (eqOk x = true ∧ eqOk y' = true) ∧ P (.bl (ds.any fun z => eqvD z x)) T2) X) X
def dNotInD (a b : DE) : DE := fun ρ T P X => a ρ T (fun x T1 => b ρ T1 (fun y T2 => optK (thaw T2 y) fun y' => optK (pyl y') fun ds => (eqOk x = true ∧ eqOk y' = true) ∧ P (.bl (!ds.any fun z => eqvD z x)) T2) X) X
theorem pys_any (x : D) : ∀ ds : List D, (pys ds).any (fun z => PyData.eqv z (py x)) = ds.any fun z => eqvD z x
  | [] => rfl
  | d :: ds => by
    show (PyData.eqv (py d) (py x) || (pys ds).any _) = (eqvD d x || ds.any _)
    rw [pys_any x ds]
    rfl
theorem pyl.of {y : D} {ds : List D} (h : pyl y = some ds) : y = .lst ds := by
  cases y <;> cases h
  rfl
theorem le_inD {K : PySem.W.Frag} : ∀ σ H Q, can K W (dInD da db) σ H Q → tOp (rInD K) (can K W da) (can K W db) σ H Q := op2 fun T G H x y v u P Q c r1 r2 h k => by
  obtain ⟨y', e2, h⟩ := optK.of h
  obtain ⟨ds, e3, ⟨o1, o2⟩, h9⟩ := optK.of h
  cases pyl.of e3
  unfold eqOk at o1 o2
  rw [Bool.and_eq_true] at o1 o2
  refine ⟨py x, pys ds, Rp.dp c.sub x v o1.1 r1, thaw.dp c r2 e2 o2.1, o1.2, o2.2, ?_⟩
  rw [pys_any]
  exact k _ _ _ _ _ h9 (.refl c) (.bl _)
theorem Room.units5 {k : Nat} {A : Around} (r : Room k A) : A.units + 65 < cLine := by have := r.un; omega
theorem pdt_inD (hu : X.A.units + 65 < cLine) (ha : PE X a (can X.K W da)) (hb : PE X b (can X.K W db)) (hm : behindInMarks .In b = false) : PT X (.Compare a [.In] [b] pos) (canT X.K W (dTst (dInD da db))) := pdt_C (op_inD hu) ha hb hm le_inD
/-- sorted(a), a list of numbers -/
def dSorted (a : DE) : DE := fun ρ T P X => a ρ T (fun x T1 => optK (lstOf T1 x) fun ds => optK (intsOf ds) fun ns => ∀ ns' : List Int, ns'.Perm ns → ns'.Pairwise (· ≤ ·) → P (.lst (ns'.map .int)) T1) X
theorem pd_sorted (hg : Gl X "sorted") (hm : X.mg "sorted" = none) (ha : PE X a (can X.K W da)) (he : starEach (a :: []) X.env = (false, eval a X.env) :: starEach [] X.env := by rfl) : PE X (.Call (.Name "sorted" p) [a] [] pos) (can X.K W (dSorted da)) :=
  PE.imp (pe_callB cr_sortedI hg hm (by decide +kernel) (pa_cons ha pa_nil he) (by decide) (by decide) he) (le_cb1 (f := fun x T P => optK (lstOf T x) fun ds => optK (intsOf ds) fun ns => ∀ ns' : List Int, ns'.Perm ns → ns'.Pairwise (· ≤ ·) → P (.lst (ns'.map .int)) T) fun T G H x v P Q c r h k => by
    obtain ⟨ds, q, h⟩ := optK.of h
    obtain ⟨ns, q2, h⟩ := optK.of h
    obtain ⟨a, vs, rfl, hs, hr⟩ := lst_rd c r q
    have ev := intsOf.of q2 hr
    subst ev
    exact ⟨a, ns, rfl, hs, fun ns' p h1 h2 hp => k _ _ _ _ _ (h ns' h1 h2) (c.new hp) (.lst upd_same (RpA.ints _))⟩)
/-- l.insert(i, x), l.remove(x) -/
def insD (o i d : D) (T : Sto) (P : D → Sto → Prop) : Prop := match o, i with
  | .ptr a, .int z => (0 ≤ z ∧ z < 2 ^ 62) ∧ optK (mlst (T a)) fun ds => ds.length < 1000000 ∧ P .non (updT T a (.lst (ds.take z.toNat ++ [d] ++ ds.drop z.toNat)))
  | _, _ => False
def dIns (d1 d2 d3 : DE) : DE := fun ρ T P X => d1 ρ T (fun o T1 => isPtrL T1 o = true ∧ d2 ρ T1 (fun i T2 => d3 ρ T2 (fun d T3 => insD o i d T3 P) X) X) X
theorem pd_ins {o e1 e2 : Expr} {d1 d2 d3 : DE} {apos cpos : Pos} (ho : PE X o (can X.K W d1)) (h1 : PE X e1 (can X.K W d2)) (h2 : PE X e2 (can X.K W d3))
    (hbase : attributeBase o "insert" X.env (eval o X.env) = eval o X.env := by rfl)
    (hfew : ((backTo cpos (starEach [e1, e2] X.env)).all (fun x => !x.1) && (backToKw cpos (keywordEach [] X.env)).all (fun x => x.1.isSome)
      && decide ([e1, e2].length + ([] : List Keyword).length + (if ([] : List Keyword).isEmpty then 0 else 1) < 30)) = true := by rfl)
    (hline : (apos.endLine == cpos.line) = true := by rfl) (hs : starEach [e1, e2] X.env = (false, eval e1 X.env) :: starEach [e2] X.env := by rfl) (hs2 : starEach [e2] X.env = (false, eval e2 X.env) :: starEach [] X.env := by rfl) (hplain : (backTo cpos (starEach [e2] X.env)).any (·.1) = false := by rfl) :
    PE X (.Call (.Attribute o "insert" apos) [e1, e2] [] cpos) (can X.K W (dIns d1 d2 d3)) :=
  PE.imp (pe_bm PySem.F.plainAttrs_list PySem.F.slot_list_insert PySem.F.type_list_insert mt_insert ho (pa_cons h1 (pa_cons h2 pa_nil hs2) hs) hbase hfew hline hs hplain) fun σ H Q ⟨T, G, ρ, P, Xp, c, ok, h, k, kx⟩ => by
    refine can_mk c ok h (fun o T1 v1 G1 H1 h1 g1 r1 => ⟨isPtrL.ty g1.ctx r1 h1.1, ?_⟩) kx
    refine can_mk g1.ctx (ok.up g1.sub) h1.2 (fun i T2 v2 G2 H2 h2 g2 r2 => ?_) (kx.up g1)
    refine can_mk g2.ctx (ok.up (g1.sub.trans g2.sub)) h2 (fun d T3 v3 G3 H3 h3 g3 r3 => ?_) ((kx.up g1).up g2)
    have r1' := r1.up (g2.sub.trans g3.sub)
    cases r1' with
    | ptr b =>
      cases r2 with
      | int z =>
        obtain ⟨hz, h4⟩ := h3
        obtain ⟨ds, e1, hl, h5⟩ := optK.of h4
        obtain ⟨gb, vs, hv, hr⟩ := g3.ctx.own b _ (mlst.of e1)
        refine ⟨b, vs, z, v3, rfl, rfl, hv, ?_, hz.1, Int.lt_trans hz.2 (by decide), ?_⟩
        · rw [hr.length]; exact Nat.lt_of_lt_of_le hl (by decide)
        · have g4 := g3.ctx.put (o := .lst (vs.take z.toNat ++ [v3] ++ vs.drop z.toNat)) (m' := .lst (ds.take z.toNat ++ [d] ++ ds.drop z.toNat)) (mlst.of e1) ⟨_, upd_same, ((hr.take _).append (.cons r3 .nil)).append (hr.drop _)⟩
          exact k _ _ _ _ _ h5 (((g1.trans g2).trans g3).trans g4) .non
      | _ => exact False.elim h3
    | _ => exact False.elim h3
def remD (o d : D) (T : Sto) (P : D → Sto → Prop) : Prop := match o, d with
  | .ptr a, .int k => optK (mlst (T a)) fun ds => optK (intsOf ds) fun ns => k ∈ ns ∧ P .non (updT T a (.lst ((ns.erase k).map .int)))
  | _, _ => False
def dRem (d1 d2 : DE) : DE := fun ρ T P X => d1 ρ T (fun o T1 => isPtrL T1 o = true ∧ d2 ρ T1 (fun d T2 => remD o d T2 P) X) X
theorem pd_rem {o : Expr} {d1 d2 : DE} {apos cpos : Pos} (hc : X.calm = true) (tk : Takes X W) (ho : PE X o (can X.K W d1)) (ha : PE X e (can X.K W d2))
    (hbase : attributeBase o "remove" X.env (eval o X.env) = eval o X.env := by rfl)
    (hfew : ((backTo cpos (starEach [e] X.env)).all (fun x => !x.1) && (backToKw cpos (keywordEach [] X.env)).all (fun x => x.1.isSome)
      && decide (([e] : List Expr).length + ([] : List Keyword).length + (if ([] : List Keyword).isEmpty then 0 else 1) < 30)) = true := by rfl)
    (hline : (apos.endLine == cpos.line) = true := by rfl) (hs : starEach [e] X.env = (false, eval e X.env) :: starEach [] X.env := by rfl) (hplain : (backTo cpos (starEach [] X.env)).any (·.1) = false := by rfl) :
    PE X (.Call (.Attribute o "remove" apos) [e] [] cpos) (can X.K W (dRem d1 d2)) :=
  PE.imp (pe_remX hc tk ho ha hbase hfew hline hs hplain) fun σ H Q ⟨T, G, ρ, P, Xp, c, ok, h, k, kx⟩ => by
    refine can_mk c ok h (fun o T1 v1 G1 H1 h1 g1 r1 => ⟨isPtrL.ty g1.ctx r1 h1.1, ?_⟩) kx
    refine can_mk g1.ctx (ok.up g1.sub) h1.2 (fun d T2 v2 G2 H2 h2 g2 r2 => ?_) (kx.up g1)
    have r1' := r1.up g2.sub
    cases r1' with
    | ptr b =>
      cases r2 with
      | int z =>
        obtain ⟨ds, e1, h3⟩ := optK.of h2
        obtain ⟨ns, e2, hm, h4⟩ := optK.of h3
        obtain ⟨gb, vs, hv, hr⟩ := g2.ctx.own b _ (mlst.of e1)
        have ev := intsOf.of e2 hr
        subst ev
        refine ⟨b, ns, z, rfl, rfl, hv, fun _ => ?_, fun hn => absurd hm hn⟩
        have g3 := g2.ctx.put (o := .lst ((ns.erase z).map V.int)) (m' := .lst ((ns.erase z).map .int)) (mlst.of e1) ⟨_, upd_same, RpA.ints _⟩
        exact k _ _ _ _ _ h4 ((g1.trans g2).trans g3) .non
      | _ => exact False.elim h2
    | _ => exact False.elim h2
end
/-! ### range with a step of two -/
section
variable {X : Cx} {W : WX} {a b c' e elt tg iter : Expr} {da db de : DE} {pos pos' tpos ppos : Pos} {body : List Stmt} {sb : DS} {dg : DG} {x : Str} {p : Pos} {j : Nat} {scope : Scope}
def rngS (lo c : Int) : Nat → List D
  | 0 => []
  | n + 1 => .int lo :: rngS (lo + c) c n
theorem rngS_get (c : Int) : ∀ (n i : Nat) (lo : Int), i < n → (rngS lo c n)[i]? = some (.int (lo + i * c))
  | 0, i, lo, h => absurd h (Nat.not_lt_zero _)
  | n + 1, 0, lo, h => by simp [rngS]
  | n + 1, i + 1, lo, h => by
    have ih := rngS_get c n i (lo + c) (by omega)
    show (rngS (lo + c) c n)[i]? = _
    rw [ih]
    congr 2
    have : ((i + 1 : Nat) : Int) * c = (i : Int) * c + c := by
      rw [show ((i + 1 : Nat) : Int) = (i : Int) + 1 by omega, Int.add_mul, Int.one_mul]
    rw [this]
    omega
theorem rngS_length (c : Int) : ∀ (n : Nat) (lo : Int), (rngS lo c n).length = n
  | 0, _ => rfl
  | n + 1, lo => by show (rngS (lo + c) c n).length + 1 = n + 1; rw [rngS_length c n]
/-- range(0, n, 2) -/
def rng3 (xs : List D) (k : List D → Prop) : Prop := match xs with
  | [.int 0, .int n, .int 2] => (-1 ≤ n ∧ n ≤ 1000000) ∧ k (rngS 0 2 ((n + 1) / 2).toNat)
  | _ => False
theorem rng3.of {xs : List D} {k : List D → Prop} (h : rng3 xs k) : ∃ n : Int, xs = [.int 0, .int n, .int 2] ∧ (-1 ≤ n ∧ n ≤ 1000000) ∧ k (rngS 0 2 ((n + 1) / 2).toNat) := by
  unfold rng3 at h
  split at h
  · exact ⟨_, rfl, h⟩
  · exact h.elim
theorem rgc2 {n : Int} (h0 : -1 ≤ n) (h1 : n ≤ 1000000) : RgC 0 n 2 ((n + 1) / 2).toNat := by
  refine ⟨by decide, by decide, ?_, ?_⟩
  · have e : Builtin.Range.rangeSize 0 n 2 ≤ 1000000 ∧ 0 ≤ Builtin.Range.rangeSize 0 n 2 := by
      unfold Builtin.Range.rangeSize
      rw [if_pos (by decide)]
      split
      · omega
      · omega
    have f : ∀ z : Int, -1 ≤ z → z ≤ 2000000 → Builtin.Range.rangeFitsLong z = true := fun z h0 h1 => by
      unfold Builtin.Range.rangeFitsLong
      simp
      omega
    unfold Builtin.Range.small
    rw [f 0 (by decide) (by decide), f n h0 (by omega), f 2 (by decide) (by decide), f _ (by omega) (by omega), if_pos (by decide), f (n + (2 - 1)) (by omega) (by omega)]
    simp
  · unfold Builtin.Range.rangeSize
    rw [if_pos (by decide)]
    split
    · omega
    · omega
theorem RpA.ints3 {K : PySem.W.Frag} {G : Hp} {vs : List V} {l m n : Int} (h : RpA K G vs [.int l, .int m, .int n]) : vs = [.int l, .int m, .int n] := by
  cases h with
  | cons h1 h2 => cases h1; cases h2 with
    | cons h3 h4 => cases h3; cases h4 with
      | cons h5 h6 => cases h5; cases h6; rfl
theorem jok_rngS {K : PySem.W.Frag} {G1 : Hp} {lo c : Int} {n : Nat} : JOk K G1 (rngS lo c n) (Itc lo c n) := fun i H s => by
  rw [rngS_length]
  refine ⟨fun hi => ⟨hi, fun x H' hy => ?_⟩, fun hi => hi⟩
  obtain ⟨rfl, rfl⟩ := hy
  exact ⟨rfl, _, rngS_get c n i lo hi, .int _⟩
def dForR3 (dg : DG) (dd : DA) (sb : DS) : DS := fun E ρ T => dd ρ T (fun xs T1 => rng3 xs fun ds => forL dg sb E ds ρ T1) (fun x T1 => E.ex x ρ T1)
theorem for_rngS {K : PySem.W.Frag} {E : DX} {D : Ends} {T1 : Sto} {G1 H1 : Hp} {ρ : Env} {σ : L2.St} {lo c : Int} {n : Nat} (cc : Ctx K T1 G1 H1) (ok : EnvOk K G1 σ ρ) (l : Lk K W T1 G1 H1 E D) (h : forL dg sb E (rngS lo c n) ρ T1) :
    ∃ Wv : Nat → Nat → L2.St → Hp → Prop, (∃ m, Wv 0 m σ H1) ∧ ∀ i m σ H, Wv i m σ H →
      ((Itc lo c n).stop i H ∧ D.nx σ H) ∨ ((Itc lo c n).go i H ∧ ∃ N : L2.St → Hp → Prop, (∀ σ' H', N σ' H' → ∃ m', m' < m ∧ Wv (i + 1) m' σ' H') ∧ ∀ v H', (Itc lo c n).yld i H v H' → canG K W dg v σ H' fun σ2 H2 => canS K W sb { D with nx := N, ct := N, bk := D.nx } σ2 H2) := by
  have len := rngS_length c n lo
  refine ⟨fun i m σ H => Pv K dg sb E (rngS lo c n) T1 G1 H1 i σ H ∧ i + m = n, ⟨n, ⟨T1, G1, ρ, .refl cc, ok, h⟩, by omega⟩, fun i m σ H ⟨hp, e⟩ => ?_⟩
  by_cases hi : i < n
  · refine .inr ⟨hi, Pv K dg sb E (rngS lo c n) T1 G1 H1 (i + 1), fun σ' H' q => ⟨m - 1, by omega, q, by omega⟩, fun v H' ⟨eH, ev⟩ => ?_⟩
    subst eH
    subst ev
    exact Pv.turn l (rngS_get c n i lo hi) hp fun G' s => .int _
  · have z : (rngS lo c n).length = i := by omega
    have hp' : Pv K dg sb E (rngS lo c n) T1 G1 H1 (rngS lo c n).length σ H := by rw [z]; exact hp
    exact .inl ⟨by show n ≤ i; omega, Pv.done l hp'⟩
theorem pds_forR3 {dd : DA} (po : PassesOwn (model X.prog X.w) X.A X.env X.xe) (hc : X.calm = true) (hgl : Gl X "range") (hm : X.mg "range" = none) (ha : PA X [a, b, c'] (canA X.K W dd)) (hg : PG X tg (canG X.K W dg)) (hb : PSs X body (canS X.K W sb))
    (hs : starEach [a, b, c'] X.env = (false, eval a X.env) :: starEach [b, c'] X.env := by rfl) (hpl : (backTo pos' (starEach [b, c'] X.env)).any (·.1) = false := by rfl) : PS X (.For tg (.Call (.Name "range" p) [a, b, c'] [] pos') body [] pos) (canS X.K W (dForR3 dg dd sb)) :=
  PS.imp (ps_for po hc (pi_range3 hgl hm ha hs hpl) hg hb (by intro _; rfl)) fun D σ H ⟨T, G, ρ, E, c, ok, h, l⟩ => by
    refine ⟨T, G, ρ, _, _, c, ok, h, fun xs T1 vs G1 H1 h1 g1 r1 => ?_, l.exE ok⟩
    obtain ⟨n, rfl, hn, h1⟩ := rng3.of h1
    rw [r1.ints3]
    exact ⟨0, n, 2, _, rfl, rgc2 hn.1 hn.2, for_rngS g1.ctx (ok.up g1.sub) (l.up g1) h1⟩
def dLcR3 (j : Nat) (dd : DA) (de : DE) : DE := fun ρ T P X => dd ρ T (fun xs T1 => rng3 xs fun ds => lcL j de (ρ.set j none) (fun acc T2 => P (.lst acc) T2) ds [] T1) X
theorem le_lcR3 {dd : DA} : ∀ σ H Q, can X.K W (dLcR3 j dd de) σ H Q → tLc (iRng3 (canA X.K W dd)) (gName j) tYes (can X.K W0 de) [j] σ H Q := fun σ H Q ⟨T, G, ρ, P, Xp, c, ok, h, k, kx⟩ => by
  refine ⟨T, G, ρ, _, _, c, ok, h, fun xs T1 vs G1 H1 h1 g1 r1 => ?_, kx⟩
  obtain ⟨n, rfl, hn, h1⟩ := rng3.of h1
  rw [r1.ints3]
  have l : LkV X.K T1 G1 H1 (fun d T => ∃ acc, d = .lst acc ∧ P (.lst acc) T) Q := fun d T2 v2 G2 H2 ⟨acc, e, q⟩ g2 r2 => by
    subst e
    exact k _ _ _ _ _ q (g1.trans g2) r2
  refine ⟨0, n, 2, _, rfl, rgc2 hn.1 hn.2, lc_gen (W := W) g1.ctx (ok.up g1.sub) jok_rngS ?_ h1 l⟩
  rw [rngS_length]
  omega
theorem pd_lcR3 {dd : DA} (hc : X.calm = true) (hN : X.N.Nodup) (hgl : Gl X "range") (hm : X.mg "range" = none) (ha : PA X [a, b, c'] (canA X.K W dd)) (ok : BlkOk X.N X.env.scope scope [(x, j)])
    (hg : ∀ (s : Shared) (H : Hp) (C : Addr) (cl : List (Str × Addr)) (fp : List Addr), PG (X.blk s H scope (compEnvC scope cl C X.env) fp) (.Name x tpos) (gName j))
    (he : ∀ (s : Shared) (H : Hp) (C : Addr) (cl : List (Str × Addr)) (fp : List Addr), PE (X.blk s H scope (compEnvC scope cl C X.env) fp) elt (can X.K W0 de)) (hs : starEach [a, b, c'] X.env = (false, eval a X.env) :: starEach [b, c'] X.env := by rfl) (hpl : (backTo pos' (starEach [b, c'] X.env)).any (·.1) = false := by rfl) :
    PE X (.ListComp elt [⟨.Name x tpos, .Call (.Name "range" p) [a, b, c'] [] pos', [], 0⟩] scope pos) (can X.K W (dLcR3 j dd de)) := PE.imp (pe_lc (own := [(x, j)]) hc hN (pi_range3 hgl hm ha hs hpl) ok hg (fun _ _ _ _ _ => pts_nil) he (by intro _; rfl)) le_lcR3
/-! ### for over a list that may be changed, but is not within the loop -/
def forP (dg : DG) (db : DS) (E : DX) (a : Addr) (all : List D) : List D → Env → Sto → Prop
  | [], ρ, T => T a = some (.lst all) ∧ E.nx ρ T
  | d :: ds, ρ, T => T a = some (.lst all) ∧ dg d ρ T (fun ρ1 T1 => db { E with nx := forP dg db E a all ds, ct := forP dg db E a all ds, bk := E.nx } ρ1 T1) (fun x T1 => E.ex x ρ T1)
def forAK (dg : DG) (sb : DS) (E : DX) (x : D) (ρ : Env) (T : Sto) : Prop := match x with
  | .ptr a => optK (mlst (T a)) fun ds => forP dg sb E a ds ds ρ T
  | _ => optK (frozen x) fun ds => forL dg sb E ds ρ T
def dForA (dg : DG) (de : DE) (sb : DS) : DS := fun E ρ T => de ρ T (fun x T1 => forAK dg sb E x ρ T1) (fun x T1 => E.ex x ρ T1)
end
end SY

/-! dicts, told over data -/
namespace SY
open PySem PySem.Spec PyProof.Rows L2
def keyOf : D → Option (List Int)
  | .tup ds => intsOf ds
  | _ => none
def keysOf : List D → Option (List (List Int))
  | [] => some []
  | d :: ds => (keyOf d).bind fun k => (keysOf ds).map (k :: ·)
def key2Of : D → Option (List (List Int))
  | .tup ds => keysOf ds
  | _ => none
def m1 : Option MO → Option (List (List Int) × List D)
  | some (.d1 ks ds) => some (ks, ds)
  | _ => none
def m2 : Option MO → Option (List (List (List Int)))
  | some (.d2 ks) => some ks
  | _ => none
def dicOf (T : Sto) : D → Option (List (List Int) × List D)
  | .dic ks ds => some (ks, ds)
  | .ptr a => m1 (T a)
  | _ => none
theorem m1.of {o : Option MO} {x : List (List Int) × List D} (h : m1 o = some x) : o = some (.d1 x.1 x.2) := by
  cases o with
  | none => cases h
  | some m => cases m <;> cases h; rfl
theorem m2.of {o : Option MO} {x : List (List (List Int))} (h : m2 o = some x) : o = some (.d2 x) := by
  cases o with
  | none => cases h
  | some m => cases m <;> cases h; rfl
def dval : List (List Int) → List D → List Int → Option D
  | k' :: ks, d :: ds, k => if k' = k then some d else dval ks ds k
  | _, _, _ => none
def hasK {K : Type} [DecidableEq K] (ks : List K) (k : K) : Bool := ks.any fun x => decide (x = k)
def kput {K : Type} [DecidableEq K] (ks : List K) (k : K) : List K := if hasK ks k = true then ks else ks ++ [k]
def drep : List (List Int) → List D → List Int → D → List D
  | k' :: ks, e :: ds, k, d => (if k' = k then d else e) :: drep ks ds k d
  | _, _, _, _ => []
def dput (ks : List (List Int)) (ds : List D) (k : List Int) (d : D) : List D := if hasK ks k = true then drep ks ds k d else ds ++ [d]
def kdrop (ks : List (List Int)) (k : List Int) : List (List Int) := ks.filter fun x => decide (x ≠ k)
def ddrop : List (List Int) → List D → List Int → List D
  | k' :: ks, d :: ds, k => if k' = k then ddrop ks ds k else d :: ddrop ks ds k
  | _, _, _ => []
section
variable {K : PySem.W.Frag} {G : Hp}
theorem keyOf.rd {d : D} {v : V} {k : List Int} (r : Rp K G v d) (e : keyOf d = some k) : ∃ b, v = .ref b ∧ SqT K G b (k.map V.int) := by
  cases r with
  | tup h1 h2 =>
    have e' : intsOf _ = some k := e
    rw [intsOf.of e' h2] at h1
    exact ⟨_, rfl, h1⟩
  | _ => cases e
theorem keysOf.rd : ∀ {ds : List D} {vs : List V} {ks : List (List Int)}, RpA K G vs ds → keysOf ds = some ks → ∃ qs : List Addr, vs = qs.map V.ref ∧ Paired (fun ns q => SqT K G q (ns.map V.int)) ks qs
  | [], _, ks, r, e => by cases r; cases e; exact ⟨[], rfl, .nil⟩
  | d :: ds, _, ks, r, e => by
    cases r with
    | cons r1 r2 =>
      unfold keysOf at e
      cases q1 : keyOf d with
      | none => rw [q1] at e; cases e
      | some k =>
        rw [q1] at e
        cases q2 : keysOf ds with
        | none => rw [q2] at e; cases e
        | some ks' =>
          rw [q2] at e
          cases e
          obtain ⟨b, rfl, h⟩ := keyOf.rd r1 q1
          obtain ⟨qs, rfl, h'⟩ := keysOf.rd r2 q2
          exact ⟨b :: qs, rfl, .cons h h'⟩
theorem key2Of.rd {d : D} {v : V} {k : List (List Int)} (r : Rp K G v d) (e : key2Of d = some k) : ∃ b, v = .ref b ∧ dk2.kr K G b k := by
  cases r with
  | tup h1 h2 =>
    have e' : keysOf _ = some k := e
    obtain ⟨qs, rfl, h⟩ := keysOf.rd h2 e'
    exact ⟨_, rfl, qs, h1, h⟩
  | _ => cases e
end
section
variable {K : PySem.W.Frag} {T T1 : Sto} {G G1 H H1 : Hp}
/-- a new thing that may be changed -/
theorem Ctx.newO (c : Ctx K T G H) {p : Addr} {o : HO} {m : MO} (n : H p = none) (r : MOk K G (upd H p o) p m) : Gro K T G H (updT T p m) G (upd H p o) := by
  have gp : G p = none := by
    cases q : G p with
    | none => rfl
    | some o2 => rw [c.sub p o2 q] at n; cases n
  refine ⟨⟨fun b x e => ?_, fun a m' e => ?_⟩, Same.refl _, fun a x _ e => ?_, fun a h => ?_⟩
  · rw [upd_ne (ne_of_none e gp)]; exact c.sub b x e
  · by_cases hb : a = p
    · subst hb
      rw [updT_same] at e
      cases e
      exact ⟨gp, r⟩
    · rw [updT_ne hb] at e
      obtain ⟨g, m1⟩ := c.own a m' e
      exact ⟨g, m1.up (Same.refl _) (by rw [upd_ne hb])⟩
  · rw [upd_ne (ne_of_none e n)]; exact e
  · by_cases hb : a = p
    · subst hb; exact .inr (.inr n)
    · rcases h with h | h
      · exact .inl h
      · rw [updT_ne hb] at h; exact .inr (.inl h)
end
section
variable {X : Cx} {W : WX} {a b e f o i value : Expr} {da db dc de : DE} {pos pos' apos cpos : Pos}
/-- {} -/
def dNewD1 : DE := fun _ T P _ => ∀ p, T p = none → P (.ptr p) (updT T p (.d1 [] []))
def dNewD2 : DE := fun _ T P _ => ∀ p, T p = none → P (.ptr p) (updT T p (.d2 []))
/-- d[k] -/
def dDGet (a b : DE) : DE := fun ρ T P X => a ρ T (fun x T1 => b ρ T1 (fun y T2 => optK (dicOf T2 x) fun z => optK (keyOf y) fun k => someOf (dval z.1 z.2 k) fun d => P d T2) X) X
/-- k in d, k not in d -/
def dInD1 (a b : DE) : DE := fun ρ T P X => a ρ T (fun y T1 => b ρ T1 (fun x T2 => optK (dicOf T2 x) fun z => optK (keyOf y) fun k => P (.bl (hasK z.1 k)) T2) X) X
def dNotInD1 (a b : DE) : DE := fun ρ T P X => a ρ T (fun y T1 => b ρ T1 (fun x T2 => optK (dicOf T2 x) fun z => optK (keyOf y) fun k => P (.bl (!hasK z.1 k)) T2) X) X
/-- .. of a dict whose keys are tuples of tuples -/
def dic2Of (T : Sto) : D → Option (List (List (List Int)))
  | .ptr a => m2 (T a)
  | _ => none
def dNotInD2 (a b : DE) : DE := fun ρ T P X => a ρ T (fun y T1 => b ρ T1 (fun x T2 => optK (dic2Of T2 x) fun z => optK (key2Of y) fun k => P (.bl (!hasK z k)) T2) X) X
/-- d[k] = v -/
def putS (x y z : D) (T : Sto) (N : Sto → Prop) : Prop := match x with
  | .ptr a => optK (m1 (T a)) fun w => optK (keyOf y) fun k => w.1.length < 1000000 ∧ N (updT T a (.d1 (kput w.1 k) (dput w.1 w.2 k z)))
  | _ => False
theorem putS.of {x y z : D} {T : Sto} {N : Sto → Prop} (h : putS x y z T N) : ∃ a w k, x = .ptr a ∧ m1 (T a) = some w ∧ keyOf y = some k ∧ w.1.length < 1000000 ∧ N (updT T a (.d1 (kput w.1 k) (dput w.1 w.2 k z))) := by
  cases x <;> first | exact h.elim | skip
  obtain ⟨w, e1, h⟩ := optK.of h
  obtain ⟨k, e2, h⟩ := optK.of h
  exact ⟨_, w, k, rfl, e1, e2, h.1, h.2⟩
def dDPut (da db dv : DE) : DS := fun E ρ T => dv ρ T (fun z T1 => da ρ T1 (fun x T2 => db ρ T2 (fun y T3 => putS x y z T3 (E.nx ρ)) (fun e T' => E.ex e ρ T')) (fun e T' => E.ex e ρ T')) (fun e T' => E.ex e ρ T')
def putS2 (x y : D) (T : Sto) (N : Sto → Prop) : Prop := match x with
  | .ptr a => optK (m2 (T a)) fun w => optK (key2Of y) fun k => w.length < 1000000 ∧ N (updT T a (.d2 (kput w k)))
  | _ => False
theorem putS2.of {x y : D} {T : Sto} {N : Sto → Prop} (h : putS2 x y T N) : ∃ a w k, x = .ptr a ∧ m2 (T a) = some w ∧ key2Of y = some k ∧ w.length < 1000000 ∧ N (updT T a (.d2 (kput w k))) := by
  cases x <;> first | exact h.elim | skip
  obtain ⟨w, e1, h⟩ := optK.of h
  obtain ⟨k, e2, h⟩ := optK.of h
  exact ⟨_, w, k, rfl, e1, e2, h.1, h.2⟩
def dDPut2 (da db dv : DE) : DS := fun E ρ T => dv ρ T (fun z T1 => da ρ T1 (fun x T2 => db ρ T2 (fun y T3 => putS2 x y T3 (E.nx ρ)) (fun e T' => E.ex e ρ T')) (fun e T' => E.ex e ρ T')) (fun e T' => E.ex e ρ T')
/-- d.pop(k) -/
def isDicP (T : Sto) : D → Bool
  | .ptr a => (m1 (T a)).isSome
  | _ => false
theorem isDicP.at {K : PySem.W.Frag} {T : Sto} {G H : Hp} {v : V} {x : D} (c : Ctx K T G H) (r : Rp K G v x) (h : isDicP T x = true) : ∃ a, v = .ref a ∧ x = .ptr a ∧ IsDic H a := by
  cases r with
  | ptr a =>
    have h' : (m1 (T a)).isSome = true := h
    cases q : m1 (T a) with
    | none => rw [q] at h'; cases h'
    | some w =>
      obtain ⟨_, es, ep, xs, q1, _⟩ := c.own a _ (m1.of q)
      exact ⟨a, rfl, rfl, es, ep, q1⟩
  | _ => cases h
def popS (x y : D) (T : Sto) (P : D → Sto → Prop) : Prop := match x with
  | .ptr a => optK (m1 (T a)) fun w => optK (keyOf y) fun k => someOf (dval w.1 w.2 k) fun d => P d (updT T a (.d1 (kdrop w.1 k) (ddrop w.1 w.2 k)))
  | _ => False
theorem popS.of {x y : D} {T : Sto} {P : D → Sto → Prop} (h : popS x y T P) : ∃ a w k d, x = .ptr a ∧ m1 (T a) = some w ∧ keyOf y = some k ∧ dval w.1 w.2 k = some d ∧ P d (updT T a (.d1 (kdrop w.1 k) (ddrop w.1 w.2 k))) := by
  cases x <;> first | exact h.elim | skip
  obtain ⟨w, e1, h⟩ := optK.of h
  obtain ⟨k, e2, h⟩ := optK.of h
  obtain ⟨d, e3, h⟩ := someOf.of h
  exact ⟨_, w, k, d, rfl, e1, e2, e3, h⟩
def dDPop (da db : DE) : DE := fun ρ T P X => da ρ T (fun x T1 => isDicP T1 x = true ∧ db ρ T1 (fun y T2 => popS x y T2 P) X) X
/-- d.setdefault(k, z) -/
def sdS (x y z : D) (T : Sto) (P : D → Sto → Prop) : Prop := match x with
  | .ptr a => optK (m1 (T a)) fun w => optK (keyOf y) fun k => w.1.length < 1000000 ∧ (hasK w.1 k = true → someOf (dval w.1 w.2 k) fun d => P d T) ∧ (hasK w.1 k = false → P z (updT T a (.d1 (kput w.1 k) (dput w.1 w.2 k z))))
  | _ => False
theorem sdS.of {x y z : D} {T : Sto} {P : D → Sto → Prop} (h : sdS x y z T P) : ∃ a w k, x = .ptr a ∧ m1 (T a) = some w ∧ keyOf y = some k ∧ w.1.length < 1000000 ∧ (hasK w.1 k = true → someOf (dval w.1 w.2 k) fun d => P d T) ∧ (hasK w.1 k = false → P z (updT T a (.d1 (kput w.1 k) (dput w.1 w.2 k z)))) := by
  cases x <;> first | exact h.elim | skip
  obtain ⟨w, e1, h⟩ := optK.of h
  obtain ⟨k, e2, h⟩ := optK.of h
  exact ⟨_, w, k, rfl, e1, e2, h⟩
def dDSetd (da db dc : DE) : DE := fun ρ T P X => da ρ T (fun x T1 => isDicP T1 x = true ∧ db ρ T1 (fun y T2 => dc ρ T2 (fun z T3 => sdS x y z T3 P) X) X) X
end
end SY

/-! for over dicts -/
namespace SY
open PySem PySem.Spec PyProof.Rows L2
def keyD (k : List Int) : D := .tup (k.map .int)
def itemsD : List (List Int) → List D → List D
  | k :: ks, d :: ds => .tup [keyD k, d] :: itemsD ks ds
  | _, _ => []
def dicF : D → Option (List (List Int) × List D)
  | .dic ks ds => some (ks, ds)
  | _ => none
section
variable {X : Cx} {W : WX} {iter tg : Expr} {de : DE} {dg : DG} {sb : DS} {body : List Stmt} {pos apos cpos : Pos}
theorem dicF.rd {K : PySem.W.Frag} {G : Hp} {d : D} {v : V} {x : List (List Int) × List D} (r : Rp K G v d) (e : dicF d = some x) : ∃ a es ep, ∃ xs : Xs (List Int), v = .ref a ∧ G a = some (dicO a es ep) ∧ DicE dk1 K G es xs ∧ x.1 = xs.map (·.1) ∧ RpA K G (xs.map (·.2.2)) x.2 := by
  cases r with
  | dic h1 h2 h3 h4 h5 =>
    cases e
    subst h4
    exact ⟨_, _, _, _, rfl, h1, h2, h3, h5⟩
  | _ => cases e
/-- for k in d, for v in d.values() -/
def dForK (dg : DG) (de : DE) (sb : DS) : DS := fun E ρ T => de ρ T (fun x T1 => optK (dicF x) fun z => forL dg sb E (z.1.map keyD) ρ T1) (fun x T1 => E.ex x ρ T1)
def dForV (dg : DG) (de : DE) (sb : DS) : DS := fun E ρ T => de ρ T (fun x T1 => optK (dicF x) fun z => forL dg sb E z.2 ρ T1) (fun x T1 => E.ex x ρ T1)
def dForI (dg : DG) (de : DE) (sb : DS) : DS := fun E ρ T => de ρ T (fun x T1 => optK (dicF x) fun z => forL dg sb E (itemsD z.1 z.2) ρ T1) (fun x T1 => E.ex x ρ T1)
end
end SY

/-! < and sorted of tuples of tuples -/
namespace SY
open PySem PySem.Spec PyProof.Rows L2
section
variable {X : Cx}
def rLtD (K : PySem.W.Frag) : R2 := fun x y H Q => ∃ d e, Dp K H x d ∧ Dp K H y e ∧ PySem.W.alike d e = true ∧ d ≠ .none ∧ min d.depth e.depth ≤ 64 ∧ Q (.bl (PySem.W.dataLt d e)) H
/-- sorted(xs), data of one kind -/
def rSortedD (K : PySem.W.Frag) : List V → Hp → VK → Prop := fun vs H Q => ∃ (a : Addr) (bs : List (V × PyData)), vs = [V.ref a] ∧ SqL K H a (bs.map (·.1)) ∧ (∀ b ∈ bs, Dp K H b.1 b.2) ∧ PySem.W.AllAlike (bs.map (·.2)) ∧ PySem.W.Sortable (bs.map (·.2)) ∧ (∀ b ∈ bs, b.2.depth ≤ 60) ∧
  ∀ p, H p = none → Q (.ref p) (upd H p (.lst ((bs.mergeSort (PySem.W.dataLe false (·.2))).map (·.1))))
end
/-! ### over data -/
def isTupB : D → Bool
  | .tup _ => true
  | _ => false
def ltOk (x y : D) : Bool := plainD x && plainD y && PySem.W.alike (py x) (py y) && isTupB x && decide (min (py x).depth (py y).depth ≤ 64)
def ltD (x y : D) : Bool := PySem.W.dataLt (py x) (py y)
section
variable {X : Cx} {W : WX} {a b : Expr} {da db : DE} {pos p : Pos}
def dLtD (a b : DE) : DE := fun ρ T P X => a ρ T (fun x T1 => b ρ T1 (fun y T2 => ltOk x y = true ∧ P (.bl (ltD x y)) T2) X) X
/-- data that sorted takes -/
structure SortOk (ds : List D) : Prop where
  pl : ∀ d ∈ ds, plainD d = true
  dp : ∀ d ∈ ds, (py d).depth ≤ 60
  tp : ∀ d ∈ ds, ∃ x r, d = .tup (x :: r)
  al : ∀ d ∈ ds, ∀ e ∈ ds, PySem.W.alike (py d) (py e) = true
def leD (x y : D) : Bool := !ltD y x
def dSortedD (a : DE) : DE := fun ρ T P X => a ρ T (fun x T1 => optK (lstOf T1 x) fun ds => SortOk ds ∧ P (.lst (ds.mergeSort leD)) T1) X
end
end SY

/-! o[i] += e; what the calls need -/
namespace SY
open PySem PySem.Spec PyProof.Rows L2
section
variable {X : Cx} {W : WX} {o i e : Expr} {d0 di de : DE} {pos tpos : Pos}
def rGetL (K : PySem.W.Frag) : V → V → Hp → VK → Prop := fun x y H Q => ∃ p xs i v, x = .ref p ∧ y = .int i ∧ SqL K H p xs ∧ 0 ≤ i ∧ atI xs i = some v ∧ Q v H
def ptrOf : D → Option Addr
  | .ptr a => some a
  | _ => none
def dAugS (f : Int → Int → Int) (d0 di de : DE) : DS := fun E ρ T => d0 ρ T (fun o T1 => di ρ T1 (fun i T2 => int1 i fun z => 0 ≤ z ∧ optK (ptrOf o) fun a => optK (mlst (T2 a)) fun ds => someOf (atI ds z) fun x => de ρ T2 (fun y T4 => int2 x y fun m n => setD o i (.int (f m n)) T4 (E.nx ρ)) (fun x T' => E.ex x ρ T')) (fun x T' => E.ex x ρ T')) (fun x T' => E.ex x ρ T')
end
def sp5 (f : D → D → D → D → D → Sto → (D → Sto → Prop) → (Xc → Sto → Prop) → Prop) : DSp := fun us T P X => match us with | [a, b, c, d, e] => f a b c d e T P X | _ => False
theorem sp5.of {f us T P X} (h : sp5 f us T P X) : ∃ a b c d e, us = [a, b, c, d, e] ∧ f a b c d e T P X := by
  unfold sp5 at h
  split at h
  · exact ⟨_, _, _, _, _, rfl, h⟩
  · exact h.elim
theorem sp5.len {f} : ∀ us T P X, sp5 f us T P X → us.length = 5 := fun us T P X h => by obtain ⟨a, b, c, d, e, rfl, _⟩ := sp5.of h; rfl
end SY

/-! [elt for x in a], a list that may be changed -/
namespace SY
open PySem PySem.Spec PyProof.Rows L2
section
variable {X : Cx} {W : WX} {elt iter : Expr} {da de : DE} {pos pos' tpos : Pos} {x : Str} {j : Nat} {scope : Scope}
def dLcM (j : Nat) (da de : DE) : DE := fun ρ T P X => da ρ T (fun x T1 => optK (frozen x) fun ds => ds.length ≤ 1000000 ∧ lcL j de (ρ.set j none) (fun acc T2 => ∀ p, T2 p = none → P (.ptr p) (updT T2 p (.lst acc))) ds [] T1) X
end
end SY

/-! a dict that may be changed is changed no more -/
namespace SY
open PySem PySem.Spec PyProof.Rows L2
section
variable {X : Cx} {W : WX} {s1 : DS} {st : Stmt}
def frzDK (o : Option D) (T : Sto) (k0 : Prop) (k : D → Sto → Prop) : Prop := match o with
  | some (.ptr a) => optK (m1 (T a)) fun w => k (.dic w.1 w.2) (offT T a)
  | _ => k0
def dFrzD (i : Nat) (s : DS) : DS := fun E ρ T => frzDK (ρ.getD i none) T (s E ρ T) fun d T' => s E (ρ.set i (some d)) T'
end
end SY

/-! l.reverse(), l.clear(), a new list of two; lists in a list that are held as they are for one call -/
namespace SY
open PySem PySem.Spec PyProof.Rows L2
section
variable {X : Cx} {W : WX} {a b e o : Expr} {da db de d1 : DE} {pos apos cpos : Pos}
def revD (o : D) (T : Sto) (P : D → Sto → Prop) : Prop := match o with
  | .ptr a => optK (mlst (T a)) fun ds => P .non (updT T a (.lst ds.reverse))
  | _ => False
def clrD (o : D) (T : Sto) (P : D → Sto → Prop) : Prop := match o with
  | .ptr a => optK (mlst (T a)) fun _ => P .non (updT T a (.lst []))
  | _ => False
def dRevM (d1 : DE) : DE := fun ρ T P X => d1 ρ T (fun o T1 => isPtrL T1 o = true ∧ revD o T1 P) X
def dClr (d1 : DE) : DE := fun ρ T P X => d1 ρ T (fun o T1 => isPtrL T1 o = true ∧ clrD o T1 P) X
/-- a + b, a new list that may be changed -/
def addM (x y : D) (T : Sto) (P : D → Sto → Prop) : Prop := optK (plst T x) fun xs => optK (plst T y) fun ys => xs.length + ys.length ≤ 1000000 ∧ ∀ p, T p = none → P (.ptr p) (updT T p (.lst (xs ++ ys)))
def dAddM (a b : DE) : DE := fun ρ T P X => a ρ T (fun x T1 => b ρ T1 (fun y T2 => addM x y T2 P) X) X
end
/-! ### lists in a list -/
mutual
def tupD : D → Bool
  | .tup ds => tupDs ds
  | .lst _ => false
  | .scr _ => false
  | .ptr _ => false
  | .dic _ _ => false
  | _ => true
def tupDs : List D → Bool
  | [] => true
  | d :: ds => tupD d && tupDs ds
end
def offA (T : Sto) (l : List Addr) : Sto := fun b => if b ∈ l then none else T b
inductive DeepL (T : Sto) : List Addr → List (List D) → Prop
  | nil : DeepL T [] []
  | cons {a : Addr} {as : List Addr} {xs : List D} {xss : List (List D)} : T a = some (.lst xs) → DeepL T as xss → DeepL T (a :: as) (xs :: xss)
structure Deep (T : Sto) (R : Addr) (as : List Addr) (xss : List (List D)) : Prop where
  top : T R = some (.lst (as.map .ptr))
  nd : (R :: as).Nodup
  all : DeepL T as xss
theorem DeepL.mem {T : Sto} : ∀ {as : List Addr} {xss : List (List D)}, DeepL T as xss → ∀ a ∈ as, ∃ xs, T a = some (.lst xs)
  | _, _, .nil, a, h => by cases h
  | _, _, .cons e r, a, h => by
    rcases List.mem_cons.mp h with rfl | h
    · exact ⟨_, e⟩
    · exact DeepL.mem r a h
theorem Deep.mem {T : Sto} {R : Addr} {as : List Addr} {xss : List (List D)} (h : Deep T R as xss) : ∀ a ∈ R :: as, ∃ xs, T a = some (.lst xs) := fun a ha => by
  rcases List.mem_cons.mp ha with rfl | ha
  · exact ⟨_, h.top⟩
  · exact h.all.mem a ha
section
variable {K : PySem.W.Frag} {T : Sto} {G H : Hp}
/-- the ground with these lists -/
def withA (G H : Hp) (l : List Addr) : Hp := fun b => if b ∈ l then H b else G b
def lessA (G : Hp) (l : List Addr) : Hp := fun b => if b ∈ l then none else G b
mutual
theorem Rp.lean {G1 G2 : Hp} (hs : ∀ a x, G1 a = some x → (∀ vs, x ≠ .lst vs) → G2 a = some x) : ∀ (d : D) (v : V), tupD d = true → Rp K G1 v d → Rp K G2 v d
  | .non, _, _, .non => .non
  | .bl _, _, _, .bl b => .bl b
  | .int _, _, _, .int i => .int i
  | .str _, _, _, .str s => .str s
  | .tup ds, _, t, .tup (xs := xs) h r => by
    refine .tup ?_ (RpA.lean hs ds xs t r)
    rcases h with (h | ⟨o, h⟩) | h
    · exact .inl (.inl (hs _ _ h fun vs z => by cases z))
    · exact .inl (.inr ⟨o, hs _ _ h fun vs z => by cases z⟩)
    · exact .inr h
theorem RpA.lean {G1 G2 : Hp} (hs : ∀ a x, G1 a = some x → (∀ vs, x ≠ .lst vs) → G2 a = some x) : ∀ (ds : List D) (vs : List V), tupDs ds = true → RpA K G1 vs ds → RpA K G2 vs ds
  | [], _, _, .nil => .nil
  | d :: ds, _, t, .cons (v := v) (vs := vs) h r => by
    have t1 : (tupD d && tupDs ds) = true := t
    rw [Bool.and_eq_true] at t1
    exact .cons (Rp.lean hs d v t1.1 h) (RpA.lean hs ds vs t1.2 r)
end
end
section
variable {X : Cx} {W : WX} {e : Expr} {de : DE} {st : Stmt} {s1 : DS}
/-- a list of lists, all of them changed no more -/
def frzNK (o : Option D) (T : Sto) (k : D → Sto → Prop) : Prop := match o with
  | some (.ptr R) => ∃ as xss, Deep T R as xss ∧ k (.lst (xss.map .lst)) (offA T (R :: as))
  | _ => False
def dFrzN (i : Nat) (s : DS) : DS := fun E ρ T => frzNK (ρ.getD i none) T fun d T' => s E (ρ.set i (some d)) T'
/-- .. for one call that hands back tuples alone -/
def hldK (o : Option D) (T : Sto) (P : D → Sto → Prop) (k : D → Sto → (D → Sto → Prop) → Prop) : Prop := match o with
  | some (.ptr R) => ∃ as xss, Deep T R as xss ∧ (∀ x m, T x = some m → x ∈ R :: as ∨ m = .row) ∧ k (.lst (xss.map .lst)) (offA T (R :: as)) fun d T1 => T1 = offA T (R :: as) ∧ tupD d = true ∧ P d T
  | _ => False
def dHold (i : Nat) (de : DE) : DE := fun ρ T P X => hldK (ρ.getD i none) T P fun d T' P' => de (ρ.set i (some d)) T' P' fun _ _ => False
end
end SY

/-! list(d) of a dict whose keys are tuples; comprehensions over pairs -/
namespace SY
open PySem PySem.Spec PyProof.Rows L2
section
variable {X : Cx}
end
section
variable {X : Cx} {W : WX} {a elt iter : Expr} {da de : DE} {pos pos' tpos px py : Pos} {x y : Str} {p : Pos} {j k : Nat} {scope : Scope}
def dListDM (d1 : DE) : DE := fun ρ T P X => d1 ρ T (fun x T1 => optK (dicF x) fun z => ∀ p, T1 p = none → P (.ptr p) (updT T1 p (.lst (z.1.map keyD)))) X
/-! ### comprehensions over pairs -/
def two2 (d : D) (k : D → D → Prop) : Prop := match d with
  | .tup [a, b] => k a b
  | _ => False
theorem two2.of {d : D} {k : D → D → Prop} (h : two2 d k) : ∃ a b, d = .tup [a, b] ∧ k a b := by
  match d, h with
  | .tup [a, b], h => exact ⟨a, b, rfl, h⟩
def lcP (j k : Nat) (de : DE) (ρ0 : Env) (kk : List D → Sto → Prop) : List D → List D → Sto → Prop
  | [], acc, T => kk acc T
  | d :: ds, acc, T => two2 d fun a b => de ((ρ0.set j (some a)).set k (some b)) T (fun y T1 => lcP j k de ρ0 kk ds (acc ++ [y]) T1) (fun _ _ => False)
def dLcP (j k : Nat) (da de : DE) : DE := fun ρ T P X => da ρ T (fun x T1 => optK (frozen x) fun ds => ds.length ≤ 1000000 ∧ lcP j k de ((ρ.set k none).set j none) (fun acc T2 => P (.lst acc) T2) ds [] T1) X
def dLcPM (j k : Nat) (da de : DE) : DE := fun ρ T P X => da ρ T (fun x T1 => optK (frozen x) fun ds => ds.length ≤ 1000000 ∧ lcP j k de ((ρ.set k none).set j none) (fun acc T2 => ∀ p, T2 p = none → P (.ptr p) (updT T2 p (.lst acc))) ds [] T1) X
end
end SY

/-! one list held as it is; a comprehension that makes a list that may be changed -/
namespace SY
open PySem PySem.Spec PyProof.Rows L2
section
variable {K : PySem.W.Frag} {T : Sto} {G H : Hp}
end
section
variable {X : Cx} {W : WX} {e a b : Expr} {de da db : DE} {st : Stmt} {s1 : DS} {pos : Pos}
/-- a list that may be changed, held as it is for one call that hands back tuples alone -/
def hld1K (o : Option D) (T : Sto) (P : D → Sto → Prop) (k0 : Prop) (k : D → Sto → (D → Sto → Prop) → Prop) : Prop := match o with
  | some (.ptr R) => optK (mlst (T R)) fun xs => (∀ x m, T x = some m → x ∈ [R] ∨ m = .row) ∧ k (.lst xs) (offA T [R]) fun d T1 => T1 = offA T [R] ∧ tupD d = true ∧ P d T
  | _ => k0
def dHold1 (i : Nat) (de : DE) : DE := fun ρ T P X => hld1K (ρ.getD i none) T P (de ρ T P X) fun d T' P' => de (ρ.set i (some d)) T' P' fun _ _ => False
end
section
variable {X : Cx} {W : WX} {elt iter : Expr} {da de : DE} {pos tpos : Pos} {x : Str} {j : Nat} {scope : Scope}
end
/-! l.remove(x), data -/
section
variable {X : Cx}
def rRemoveD (K : PySem.W.Frag) : V → List V → Hp → VK → Prop := fun x xs H Q => ∃ (a : Addr) (y : V) (ys : List V) (d : PyData) (ds : List PyData) (j : Nat) (z : PyData), x = V.ref a ∧ xs = [y] ∧ H a = some (.lst ys) ∧ DpAll K H ys ds ∧ Dp K H y d ∧
  SeqAt.shaped (.list ds) = true ∧ SeqAt.shaped d = true ∧ ds[j]? = some z ∧ PyData.eqv z d = true ∧ (∀ (m : Nat) (z' : PyData), m < j → ds[m]? = some z' → PyData.eqv z' d = false) ∧ Q .non (upd H a (.lst (ys.eraseIdx j)))
end
section
variable {X : Cx} {W : WX} {o e : Expr} {d1 d2 : DE} {apos cpos : Pos}
def remDD (o d : D) (T : Sto) (P : D → Sto → Prop) : Prop := match o with
  | .ptr a => optK (mlst (T a)) fun ds => (eqOk (.lst ds) = true ∧ eqOk d = true) ∧ ∃ (j : Nat) (z : D), ds[j]? = some z ∧ eqvD z d = true ∧ (∀ (m : Nat) (z' : D), m < j → ds[m]? = some z' → eqvD z' d = false) ∧ P .non (updT T a (.lst (ds.eraseIdx j)))
  | _ => False
def dRemD (d1 d2 : DE) : DE := fun ρ T P X => d1 ρ T (fun o T1 => isPtrL T1 o = true ∧ d2 ρ T1 (fun d T2 => remDD o d T2 P) X) X
theorem RpA.erase {K : PySem.W.Frag} {G : Hp} : ∀ {vs : List V} {ds : List D} (j : Nat), RpA K G vs ds → RpA K G (vs.eraseIdx j) (ds.eraseIdx j)
  | _, _, _, .nil => .nil
  | _, _, 0, .cons _ r => r
  | _, _, j + 1, .cons h r => .cons h (RpA.erase j r)
end
end SY

/-! a comprehension with a test -/
namespace SY
open PySem PySem.Spec PyProof.Rows L2
section
theorem lcI_genF {K : PySem.W.Frag} {dt : DT} {de : DE} {j : Nat} {J : It} {T1 : Sto} {G1 H1 : Hp} {σ : L2.St} {ρ : Env} {ds : List D} {k : List D → Sto → Prop} {Q : VK} (c : Ctx K T1 G1 H1) (ok : EnvOk K G1 σ ρ) (jo : JOk K G1 ds J) (hz : ds.length ≤ 1000000)
    (h : lcI j dt de (ρ.set j none) k ds [] T1)
    (fin : ∀ Da acc accV T' G' H, H1 Da = none → Gro K T1 G1 H1 T' G' H → H Da = some (.lst accV) → G' Da = none → T' Da = none → RpA K G' accV acc → k acc T' → Q (.ref Da) H) :
    ∀ Da, H1 Da = none → ∃ Wv : Nat → Nat → Hp → Prop, (∃ m, Wv 0 m (upd H1 Da (.lst []))) ∧ ∀ i m H, Wv i m H →
      (J.stop i H ∧ Q (.ref Da) H) ∨ (J.go i H ∧ ∃ Nx : Hp → Prop, (∀ H', Nx H' → ∃ m', m' < m ∧ Wv (i + 1) m' H') ∧ ∀ x H', J.yld i H x H' → gName j x (wipe σ [j]) H' fun σ2 H2 => wipe σ2 [j] = wipe σ [j] ∧ canT K W0 dt σ2 H2 fun b H3 =>
        if b = true then can K W0 de σ2 H3 fun y H4 => ∃ acc, H4 Da = some (.lst acc) ∧ acc.length < sizeLine ∧ Nx (upd H4 Da (.lst (acc ++ [y]))) else Nx H3) := by
  intro Da hD
  have gD : G1 Da = none := by
    cases q : G1 Da with
    | none => rfl
    | some o => rw [c.sub _ _ q] at hD; cases hD
  have tD : T1 Da = none := none_of_new c hD
  let Wv : Nat → Nat → Hp → Prop := fun i m H => ∃ T' G' acc accV, Gro K T1 G1 H1 T' G' H ∧ H Da = some (.lst accV) ∧ G' Da = none ∧ T' Da = none ∧ RpA K G' accV acc ∧ lcI j dt de (ρ.set j none) k (ds.drop i) acc T' ∧ acc.length ≤ i ∧ i + m = ds.length
  refine ⟨Wv, ⟨ds.length, T1, G1, [], [], (Gro.refl c).junk hD gD tD, upd_same, gD, tD, .nil, h, Nat.le_refl _, by omega⟩, fun i m H hW => ?_⟩
  obtain ⟨T', G', acc, accV, g, eD, gD', tD', ra, hl, ei, em⟩ := hW
  have sH : Same G1 H := g.sub.trans g.ctx.sub
  obtain ⟨j1, j2⟩ := jo i H sH
  by_cases hi : i < ds.length
  · obtain ⟨go, yl⟩ := j1 hi
    refine .inr ⟨go, fun H' => ∃ m', m' < m ∧ Wv (i + 1) m' H', fun H' z => z, fun x H' hy => ?_⟩
    obtain ⟨rfl, d, ed, rd⟩ := yl x H' hy
    rw [drop_cons ed] at hl
    show wipe ((wipe σ [j]).set j (some x)) [j] = wipe σ [j] ∧ _
    refine ⟨set_set _ _ _ _ |>.trans (set_set _ _ _ _), ?_⟩
    show canT K W0 dt ((wipe σ [j]).set j (some x)) H' _
    have ok2 : EnvOk K G' ((wipe σ [j]).set j (some x)) ((ρ.set j none).set j (some d)) := ((ok.up g.sub).unset j none).set (rd.up g.sub)
    have keep : ∀ {T2 : Sto} {G2 H2 : Hp}, Gro K T' G' H' T2 G2 H2 → H2 Da = some (.lst accV) ∧ G2 Da = none ∧ T2 Da = none := by
      intro T2 G2 H2 g2
      have nf : ¬ (G2 Da ≠ none ∨ T2 Da ≠ none) := fun z => by
        rcases g2.fresh Da z with z | z | z
        · exact z gD'
        · exact z tD'
        · rw [z] at eD; cases eD
      refine ⟨g2.keep _ _ tD' eD, ?_, ?_⟩
      · cases q : G2 Da with
        | none => rfl
        | some o => exact absurd (.inl (by rw [q]; exact fun z => by cases z)) nf
      · cases q : T2 Da with
        | none => rfl
        | some o => exact absurd (.inr (by rw [q]; exact fun z => by cases z)) nf
    refine ⟨T', G', _, _, _, g.ctx, ok2, hl, fun b T2 G2 H2 h2 g2 => ?_, fun x T' G' H' z _ => z⟩
    obtain ⟨e2, n1, n2⟩ := keep g2
    cases b with
    | false =>
      rw [if_neg (by simp)] at h2 ⊢
      exact ⟨m - 1, by omega, T2, G2, acc, accV, g.trans g2, e2, n1, n2, ra.up g2.sub, h2, by omega, by omega⟩
    | true =>
      rw [if_pos rfl] at h2 ⊢
      refine ⟨T2, G2, _, _, _, g2.ctx, ok2.up g2.sub, h2, fun y T3 v3 G3 H3 h3 g3 r3 => ?_, fun x T' G' H' z _ => z⟩
      obtain ⟨e3, n3, n4⟩ := keep (g2.trans g3)
      refine ⟨accV, e3, ?_, m - 1, by omega, T3, G3, acc ++ [y], accV ++ [v3], ((g.trans g2).trans g3).junk hD n3 n4, upd_same, n3, n4, (ra.up (g2.trans g3).sub).append (.cons r3 .nil), h3, by simp; omega, by omega⟩
      rw [ra.length]
      exact Nat.lt_of_le_of_lt ei (Nat.lt_of_lt_of_le hi (size_le hz))
  · refine .inl ⟨j2 (by omega), ?_⟩
    have e0 : ds.drop i = [] := List.drop_eq_nil_of_le (by omega)
    rw [e0] at hl
    exact fin _ _ _ _ _ _ hD g eD gD' tD' ra hl
end
section
variable {X : Cx} {W : WX} {elt iter tst : Expr} {da de : DE} {dt : DT} {pos pos' tpos : Pos} {x : Str} {j : Nat} {scope : Scope}
def dLcI (j : Nat) (da : DE) (dt : DT) (de : DE) : DE := fun ρ T P X => da ρ T (fun x T1 => optK (frozen x) fun ds => ds.length ≤ 1000000 ∧ lcI j dt de (ρ.set j none) (fun acc T2 => P (.lst acc) T2) ds [] T1) X
def dLcIM (j : Nat) (da : DE) (dt : DT) (de : DE) : DE := fun ρ T P X => da ρ T (fun x T1 => optK (frozen x) fun ds => ds.length ≤ 1000000 ∧ lcI j dt de (ρ.set j none) (fun acc T2 => ∀ p, T2 p = none → P (.ptr p) (updT T2 p (.lst acc))) ds [] T1) X
theorem le_lcI : ∀ σ H Q, can X.K W (dLcI j da dt de) σ H Q → tLc (iSeq X.K (can X.K W da)) (gName j) (canT X.K W0 dt) (can X.K W0 de) [j] σ H Q := fun σ H Q ⟨T, G, ρ, P, Xp, c, ok, h, k, kx⟩ => by
  refine can_mk c ok h (fun d T1 v G1 H1 h1 g1 r1 => ?_) kx
  obtain ⟨ds, ef, hz, h1⟩ := optK.of h1
  obtain ⟨a, vs, rfl, hs, hr⟩ := frozen.rd r1 ef
  refine ⟨a, rfl, ?_⟩
  have fin : ∀ Da acc accV T' G' H, H1 Da = none → Gro X.K T1 G1 H1 T' G' H → H Da = some (.lst accV) → G' Da = none → T' Da = none → RpA X.K G' accV acc → P (.lst acc) T' → Q (.ref Da) H := fun Da acc accV T' G' H hD g eD gD tD ra hk => by
    have g3 := g.tell hD gD tD eD
    refine k _ _ _ _ _ hk (g1.trans g3) (.lst upd_same (ra.up ?_))
    intro b x e
    rw [upd_ne (ne_of_none e gD)]
    exact e
  rcases hs with hs | hs
  · exact .inl ⟨⟨vs, g1.ctx.sub.seq hs⟩, lcI_genF g1.ctx (ok.up g1.sub) (jok_list hs hr) hz h1 fin⟩
  · exact .inr ⟨⟨vs, Same.seqT g1.ctx.sub hs⟩, lcI_genF g1.ctx (ok.up g1.sub) (jok_tup hs hr) hz h1 fin⟩
theorem pd_lcI (hc : X.calm = true) (hN : X.N.Nodup) (ha : PE X iter (can X.K W da)) (ok : BlkOk X.N X.env.scope scope [(x, j)])
    (hg : ∀ (s : Shared) (H : Hp) (C : Addr) (cl : List (Str × Addr)) (fp : List Addr), PG (X.blk s H scope (compEnvC scope cl C X.env) fp) (.Name x tpos) (gName j))
    (ht : ∀ (s : Shared) (H : Hp) (C : Addr) (cl : List (Str × Addr)) (fp : List Addr), PT (X.blk s H scope (compEnvC scope cl C X.env) fp) tst (canT X.K W0 dt))
    (he : ∀ (s : Shared) (H : Hp) (C : Addr) (cl : List (Str × Addr)) (fp : List Addr), PE (X.blk s H scope (compEnvC scope cl C X.env) fp) elt (can X.K W0 de)) (hs : ∀ x, foldedSetIterable iter X.env x = pure x := by intro _; rfl) :
    PE X (.ListComp elt [⟨.Name x tpos, iter, [tst], 0⟩] scope pos) (can X.K W (dLcI j da dt de)) := PE.imp (pe_lc (own := [(x, j)]) hc hN (pi_seq ha) ok hg (fun s H C cl fp => pts_one (ht s H C cl fp)) he hs) le_lcI
end
end SY

/-! a set's table laid anew: it never lacks room -/
namespace SY
open PySem PySem.Spec PyProof.Rows L2
def stS (m i : Nat) : Nat := (i * 5 + 1) % (m + 1)
def itS (m : Nat) : Nat → Nat → Nat
  | 0, i => i
  | n + 1, i => itS m n (stS m i)
def orS (m : Nat) : Nat → Nat → List Nat
  | 0, _ => []
  | n + 1, i => i :: orS m n (stS m i)
theorem mem_orS {m j : Nat} : ∀ {n i : Nat}, j ∈ orS m n i → ∃ k, k < n ∧ itS m k i = j
  | 0, i, h => by cases h
  | n + 1, i, h => by
    rcases List.mem_cons.mp h with q | q
    · exact ⟨0, by omega, q.symm⟩
    · obtain ⟨k, hk, e⟩ := mem_orS q
      exact ⟨k + 1, by omega, e⟩
/-- one way round meets every place -/
def RoundOk (m : Nat) : Bool := (List.range (m + 1)).all (fun j => (orS m (m + 1) 0).contains j) && decide (itS m (m + 1) 0 = 0)
theorem round_all : ([7, 15, 31, 63, 127, 255] : List Nat).all RoundOk = true := by decide +kernel
theorem itS_add (m : Nat) : ∀ (a b i : Nat), itS m (a + b) i = itS m b (itS m a i)
  | 0, b, i => by rw [Nat.zero_add]; rfl
  | a + 1, b, i => by
    rw [show a + 1 + b = (a + b) + 1 by omega]
    exact itS_add m a b (stS m i)
theorem round_meets {m : Nat} (hm : RoundOk m = true) {i j : Nat} (hi : i ≤ m) (hj : j ≤ m) : ∃ k, k ≤ m ∧ itS m k i = j := by
  unfold RoundOk at hm
  rw [Bool.and_eq_true] at hm
  obtain ⟨h1, h2⟩ := hm
  have h2 := of_decide_eq_true h2
  have at0 : ∀ x, x ≤ m → ∃ k, k ≤ m ∧ itS m k 0 = x := fun x hx => by
    have := List.all_eq_true.mp h1 x (List.mem_range.mpr (by omega))
    obtain ⟨k, hk, e⟩ := mem_orS (List.contains_iff_mem.mp this)
    exact ⟨k, by omega, e⟩
  obtain ⟨a, ha, ea⟩ := at0 i hi
  obtain ⟨b, hb, eb⟩ := at0 j hj
  by_cases q : a ≤ b
  · refine ⟨b - a, by omega, ?_⟩
    rw [← ea, ← itS_add, show a + (b - a) = b by omega, eb]
  · refine ⟨m + 1 - a + b, by omega, ?_⟩
    rw [← ea, ← itS_add, show a + (m + 1 - a + b) = (m + 1) + b by omega, itS_add, h2, eb]
/-! the stands of a search -/
def wkS (m : Nat) : Nat → Nat → Nat → Nat × Nat
  | 0, i, p => (i, p)
  | n + 1, i, p => wkS m n (SetTable.leap m i p).1 (SetTable.leap m i p).2
theorem wkS_add (m : Nat) : ∀ (a b i p : Nat), wkS m (a + b) i p = wkS m b (wkS m a i p).1 (wkS m a i p).2
  | 0, b, i, p => by rw [Nat.zero_add]; rfl
  | a + 1, b, i, p => by
    rw [show a + 1 + b = (a + b) + 1 by omega]
    exact wkS_add m a b _ _
theorem wkS_p (m : Nat) : ∀ (n i p : Nat), (wkS m n i p).2 = p / 32 ^ n
  | 0, i, p => by show p = p / 1; rw [Nat.div_one]
  | n + 1, i, p => by
    have := wkS_p m n (SetTable.leap m i p).1 (SetTable.leap m i p).2
    show (wkS m n _ _).2 = _
    rw [this]
    show p / 32 / 32 ^ n = p / 32 ^ (n + 1)
    rw [Nat.div_div_eq_div_mul, Nat.pow_succ, Nat.mul_comm]
theorem wkS_le {m : Nat} : ∀ (n : Nat) {i p : Nat}, i ≤ m → (wkS m n i p).1 ≤ m
  | 0, i, p, h => h
  | n + 1, i, p, h => wkS_le n (Nat.le_of_lt_succ (Nat.mod_lt _ (by omega)))
theorem wkS_zero (m : Nat) : ∀ (n i : Nat), wkS m n i 0 = (itS m n i, 0)
  | 0, i => rfl
  | n + 1, i => wkS_zero m n (stS m i)
theorem walk_meets {m : Nat} (hm : RoundOk m = true) {i p j : Nat} (hi : i ≤ m) (hp : p < 2 ^ 64) (hj : j ≤ m) : ∃ n, n < m + 15 ∧ (wkS m n i p).1 = j := by
  obtain ⟨k, hk, e⟩ := round_meets hm (wkS_le 13 (p := p) hi) hj
  refine ⟨13 + k, by omega, ?_⟩
  have z : (wkS m 13 i p).2 = 0 := by
    rw [wkS_p]
    refine Nat.div_eq_of_lt (Nat.lt_of_lt_of_le hp (by decide))
  rw [wkS_add, z, wkS_zero]
  exact e
/-! a free place is found -/
theorem free_next (m : Nat) (owner : Array (Option Nat)) (f i p : Nat) : SetTable.layClean.free m owner (f + 1) i p = match (List.range (SetTable.runEnd m i + 1 - i)).find? fun k => (owner.getD (i + k) (some 0)).isNone with
    | some k => some (i + k)
    | none => SetTable.layClean.free m owner f (SetTable.leap m i p).1 (SetTable.leap m i p).2 := rfl
theorem free_is {m : Nat} {owner : Array (Option Nat)} : ∀ {f i p j : Nat}, SetTable.layClean.free m owner f i p = some j → owner.getD j (some 0) = none
  | 0, i, p, j, h => by cases h
  | f + 1, i, p, j, h => by
    rw [free_next] at h
    split at h
    · rename_i k hk
      cases h
      have := List.find?_some hk
      exact Option.isNone_iff_eq_none.mp this
    · exact free_is h
theorem free_some {m : Nat} {owner : Array (Option Nat)} : ∀ {f i p n : Nat}, n < f → owner.getD (wkS m n i p).1 (some 0) = none → ∃ j, SetTable.layClean.free m owner f i p = some j
  | 0, i, p, n, h, _ => by omega
  | f + 1, i, p, n, h, hn => by
    rw [free_next]
    split
    · exact ⟨_, rfl⟩
    · rename_i hk
      cases n with
      | zero =>
        exfalso
        have := List.find?_eq_none.mp hk 0 (List.mem_range.mpr (by unfold SetTable.runEnd; split <;> omega))
        rw [Nat.add_zero] at this
        have hn : owner.getD i (some 0) = none := hn
        rw [hn] at this
        exact this rfl
      | succ n => exact free_some (n := n) (by omega) hn
/-! what stands in the table -/
def lvS (g : Nat → Option Nat) (l : List Nat) : List (Nat × Nat) := l.filterMap fun j => (g j).map (j, ·)
theorem lvS_fst (g : Nat → Option Nat) : ∀ l : List Nat, (lvS g l).map (·.1) = l.filter fun j => (g j).isSome
  | [] => rfl
  | j :: l => by
    have ih := lvS_fst g l
    unfold lvS at ih ⊢
    rw [List.filterMap_cons, List.filter_cons]
    cases h : g j with
    | none => simpa [h] using ih
    | some y => simpa [h] using ih
theorem fmS_congr {α β : Type} {f g : α → Option β} : ∀ {l : List α}, (∀ x ∈ l, f x = g x) → l.filterMap f = l.filterMap g
  | [], _ => rfl
  | a :: l, h => by rw [List.filterMap_cons, List.filterMap_cons, h a (by simp), fmS_congr fun x hx => h x (by simp [hx])]
theorem lvS_new {g g' : Nat → Option Nat} {j k : Nat} (h0 : g j = none) (h1 : g' j = some k) (h2 : ∀ i, i ≠ j → g' i = g i) : ∀ {l : List Nat}, l.Nodup → j ∈ l → ((lvS g' l).map (·.2)).Perm (k :: (lvS g l).map (·.2))
  | i :: l, hn, hj => by
    obtain ⟨n1, n2⟩ := List.nodup_cons.mp hn
    unfold lvS
    rw [List.filterMap_cons, List.filterMap_cons]
    by_cases e : i = j
    · subst e
      have same : (l.filterMap fun x => (g' x).map (x, ·)) = l.filterMap fun x => (g x).map (x, ·) := by
        refine fmS_congr fun x hx => ?_
        rw [h2 x fun q => n1 (q ▸ hx)]
      rw [h0, h1, same]
      exact List.Perm.refl _
    · have ih := lvS_new h0 h1 h2 n2 ((List.mem_cons.mp hj).resolve_left fun q => e q.symm)
      unfold lvS at ih
      rw [h2 i e]
      cases hgi : g i with
      | none => simpa [hgi] using ih
      | some y =>
        show (y :: _).Perm (k :: y :: _)
        exact (ih.cons y).trans (List.Perm.swap _ _ _)
theorem lvS_len (g : Nat → Option Nat) (l : List Nat) : (lvS g l).length = (l.filter fun j => (g j).isSome).length := by
  rw [← lvS_fst, List.length_map]
/-- a table in the making -/
structure OwnS (m k : Nat) (owner : Array (Option Nat)) : Prop where
  sz : owner.size = m + 1
  pm : ((lvS (fun j => owner.getD j none) (List.range (m + 1))).map (·.2)).Perm (List.range k)
theorem OwnS.init (m : Nat) : OwnS m 0 (Array.replicate (m + 1) none) := by
  refine ⟨by simp, ?_⟩
  have e : (lvS (fun j => (Array.replicate (m + 1) (none : Option Nat)).getD j none) (List.range (m + 1))) = [] := by
    unfold lvS
    rw [List.filterMap_eq_nil_iff]
    intro j _
    have : (Array.replicate (m + 1) (none : Option Nat)).getD j none = none := by
      simp [Array.getD]
    show Option.map _ ((Array.replicate (m + 1) (none : Option Nat)).getD j none) = none
    rw [this]; rfl
  rw [e]
  exact List.Perm.refl _
theorem OwnS.room {m k : Nat} {owner : Array (Option Nat)} (W : OwnS m k owner) (hk : k ≤ m) : ∃ j, j ≤ m ∧ owner.getD j (some 0) = none := by
  by_cases q : ∃ j, j ≤ m ∧ owner.getD j (some 0) = none
  · exact q
  · exfalso
    have full : ∀ j ∈ List.range (m + 1), ((fun j => owner.getD j none) j).isSome = true := fun j hj => by
      have hj : j < m + 1 := List.mem_range.mp hj
      have hs : j < owner.size := by rw [W.sz]; exact hj
      have hne : ¬ owner.getD j (some 0) = none := fun z => q ⟨j, by omega, z⟩
      simp only [Array.getD, hs, dite_true] at hne ⊢
      cases h : owner.getInternal j hs with
      | none => exact absurd h hne
      | some y => rfl
    have l1 := W.pm.length_eq
    rw [List.length_map, lvS_len, List.filter_eq_self.mpr full, List.length_range, List.length_range] at l1
    omega
theorem OwnS.step {m k j : Nat} {owner : Array (Option Nat)} (W : OwnS m k owner) (hj : owner.getD j (some 0) = none) : OwnS m (k + 1) (owner.setIfInBounds j (some k)) := by
  have hs : j < owner.size := by
    by_cases q : j < owner.size
    · exact q
    · simp [Array.getD, q] at hj
  refine ⟨by rw [Array.size_setIfInBounds]; exact W.sz, ?_⟩
  have h0 : (fun j => owner.getD j none) j = none := by
    simp only [Array.getD, hs, dite_true] at hj ⊢
    exact hj
  have h1 : (fun i => (owner.setIfInBounds j (some k)).getD i none) j = some k := by
    simp [Array.getD, hs]
  have h2 : ∀ i, i ≠ j → (fun i => (owner.setIfInBounds j (some k)).getD i none) i = (fun j => owner.getD j none) i := fun i hi => by
    simp only [Array.getD_eq_getD_getElem?]
    rw [Array.getElem?_setIfInBounds_ne (fun z => hi z.symm)]
  have pm := lvS_new h0 h1 h2 List.nodup_range (List.mem_range.mpr (show j < m + 1 by rw [← W.sz]; exact hs))
  refine pm.trans ((W.pm.cons k).trans ?_)
  rw [List.range_succ]
  exact (List.perm_append_comm (l₁ := [k]) (l₂ := List.range k))
def lyS (m : Nat) (acc : Option (Array (Option Nat) × Nat)) (h : Int) : Option (Array (Option Nat) × Nat) :=
  acc.bind fun q => (SetTable.layClean.free m q.1 (SetTable.turns m) (SetTable.bits h % (m + 1)) (SetTable.bits h)).bind fun j => some (q.1.setIfInBounds j (some q.2), q.2 + 1)
theorem lay_eq (m : Nat) (hs : Array Int) : SetTable.layClean m hs = (hs.toList.foldl (lyS m) (some (Array.replicate (m + 1) none, 0))).map (·.1) := by
  unfold SetTable.layClean
  rw [← Array.foldl_toList]
  rfl
theorem bitsS_lt (h : Int) : SetTable.bits h < 2 ^ 64 := by
  unfold SetTable.bits
  have h1 : 0 ≤ h % (2 ^ 64 : Int) := Int.emod_nonneg _ (by decide)
  have h2 : h % (2 ^ 64 : Int) < 2 ^ 64 := Int.emod_lt_of_pos _ (by decide)
  omega
theorem lay_fold {m : Nat} (hm : RoundOk m = true) : ∀ (hs : List Int) (owner : Array (Option Nat)) (k : Nat), OwnS m k owner → k + hs.length ≤ m + 1 → ∃ owner', hs.foldl (lyS m) (some (owner, k)) = some (owner', k + hs.length) ∧ OwnS m (k + hs.length) owner'
  | [], owner, k, W, _ => ⟨owner, rfl, W⟩
  | h :: hs, owner, k, W, hl => by
    simp only [List.length_cons] at hl
    obtain ⟨j0, hj0, e0⟩ := W.room (by omega)
    obtain ⟨n, hn, en⟩ := walk_meets hm (i := SetTable.bits h % (m + 1)) (p := SetTable.bits h) (Nat.le_of_lt_succ (Nat.mod_lt _ (by omega))) (bitsS_lt h) hj0
    obtain ⟨j, ej⟩ := free_some (m := m) (owner := owner) (f := SetTable.turns m) (i := SetTable.bits h % (m + 1)) (p := SetTable.bits h) hn (by rw [en]; exact e0)
    have st : lyS m (some (owner, k)) h = some (owner.setIfInBounds j (some k), k + 1) := by
      unfold lyS
      show (SetTable.layClean.free m owner (SetTable.turns m) (SetTable.bits h % (m + 1)) (SetTable.bits h)).bind _ = _
      rw [ej]
      rfl
    obtain ⟨o', e1, W'⟩ := lay_fold hm hs _ (k + 1) (W.step (free_is ej)) (by omega)
    refine ⟨o', ?_, ?_⟩
    · rw [List.foldl_cons, st, e1, List.length_cons]
      congr 2
      omega
    · rw [List.length_cons, show k + (hs.length + 1) = k + 1 + hs.length by omega]
      exact W'
/-- laid clean: all stand in it, each once -/
theorem laid_ok {m : Nat} (hm : RoundOk m = true) (fg mv : Nat) (led plain : Bool) (hs : Array Int) (hl : hs.size ≤ m) : ∃ t order, SetTable.laid m fg mv led plain hs = some (t, order) ∧ order.toList.Perm (List.range hs.size) ∧ t.mask = m ∧ t.place.size = hs.size ∧ Ris t.place.toList ∧ t.dummies = #[] ∧ t.led = led ∧ t.plain = plain := by
  obtain ⟨owner, e, W⟩ := lay_fold hm hs.toList _ 0 (OwnS.init m) (by rw [Array.length_toList]; omega)
  rw [Nat.zero_add, Array.length_toList] at e W
  have el : SetTable.layClean m hs = some owner := by rw [lay_eq, e]; rfl
  have eL : SetTable.laid m fg mv led plain hs = some ({ mask := m, place := ((lvS (fun j => owner.getD j none) (List.range (m + 1))).map (·.1)).toArray, dummies := #[], finger := fg, led, moves := mv, plain }, ((lvS (fun j => owner.getD j none) (List.range (m + 1))).map (·.2)).toArray) := by
    unfold SetTable.laid
    rw [el]
    rfl
  refine ⟨_, _, eL, W.pm, rfl, ?_, ?_, rfl, rfl, rfl⟩
  · have l1 := W.pm.length_eq
    rw [List.length_map, List.length_range] at l1
    rw [List.size_toArray, List.length_map]
    exact l1
  · show Ris ((lvS _ _).map (·.1))
    rw [lvS_fst]
    exact List.Pairwise.filter _ List.pairwise_lt_range
end SY

/-! sets of ints: laid anew, merged -/
namespace SY
open PySem PySem.Spec PyProof.Rows L2
theorem fmS_all {α : Type} : ∀ (l pre : List α), ((List.range' pre.length l.length).filterMap fun i => (pre ++ l)[i]?) = l
  | [], pre => rfl
  | x :: l, pre => by
    have ih := fmS_all l (pre ++ [x])
    rw [List.length_append, List.length_singleton, List.append_assoc, List.singleton_append] at ih
    rw [List.length_cons, List.range'_succ, List.filterMap_cons]
    have e : (pre ++ x :: l)[pre.length]? = some x := by simp
    rw [e]
    exact congrArg (x :: ·) ih
theorem order_es {α : Type} (es : Array α) (order : Array Nat) (hp : order.toList.Perm (List.range es.size)) : (order.filterMap fun i => es[i]?).toList.Perm es.toList := by
  have e1 : (order.filterMap fun i => es[i]?).toList = order.toList.filterMap fun i => es[i]? := by simp
  rw [e1]
  refine (hp.filterMap _).trans ?_
  have e2 : (List.range es.size).filterMap (fun i => es[i]?) = es.toList := by
    have := fmS_all es.toList []
    simp only [List.length_nil, List.nil_append, Array.length_toList, Array.getElem?_toList] at this
    rw [List.range_eq_range']
    exact this
  rw [e2]
section
variable {P : Program} {w : World} {A : Around} {E : Value → Shared → Prop} {s : Shared} {a : Addr} {S : Int → Bool} {n : Nat}
theorem fits_of {t : SetTable} {k : Nat} (h1 : t.place.size = k) (h2 : t.dummies = #[]) (h3 : k ≤ t.mask) : t.fits k = true := by
  unfold SetTable.fits SetTable.fill
  rw [h2, Bool.and_eq_true, beq_iff_eq, decide_eq_true_eq, h1]
  exact ⟨rfl, h3⟩
/-- the elements in another order and another table are the same set -/
theorem SetR.other {h : Heap} {o : Obj} {es es' : Array (Int × Value)} {ep : Nat} {t t' : SetTable} (ho : h.get? a = some o) (hex : o.ExactSet) (hd : o.data = .set es ep t) (es0 : Array (Int × Value)) (pm : es'.toList.Perm es0.toList) (g : ∀ e ∈ es0.toList, GoodE e) (nd : (es0.toList.map L2.keyOf).Nodup) (hm : ∀ k, S k = true ↔ k ∈ es0.toList.map L2.keyOf) (hb : es0.size < scanBound) (hn : es0.size = n) (hf : t'.fits es'.size = true) (hr : Ris t'.place.toList) (hl : w.params.followText "set-order" = true ∨ t'.led = true) : SetR w (h.update a (Obj.putSet es' t')) a S n := by
  have hz : es'.size = es0.size := by
    have := pm.length_eq
    rw [Array.length_toList, Array.length_toList] at this
    exact this
  exact ⟨_, es', ep + 1, t', store_at ho hd, ⟨hex.1, hex.2.1, hex.2.2⟩, rfl, fun e he => g e (pm.mem_iff.mp he), (pm.map L2.keyOf).nodup_iff.mpr nd, fun k => (hm k).trans (pm.map L2.keyOf).mem_iff.symm, by rw [hz]; exact hb, hf, by rw [hz]; exact hn, hr, hl⟩
theorem relayS {wanted : Nat} {Q : Unit → Shared → Prop} (R : SetR w s.heap a S n) (hw : RoundOk (SetTable.sizeAbove wanted - 1) = true) (h2 : SetTable.sizeAbove wanted ≤ 256) (hn : n ≤ SetTable.sizeAbove wanted - 1)
    (hQ : ∀ h', Heap.SameBut a s.heap h' → SetR w h' a S n → (∃ o es ep t, h'.get? a = some o ∧ o.data = .set es ep t ∧ t.mask = SetTable.sizeAbove wanted - 1 ∧ t.dummies = #[]) → Q () { s with heap := h' }) : wpAny (model P w) A (setRelay a wanted) Q E s := by
  obtain ⟨o, es, ep, t, ho, hex, hd, g, nd, hm, hb, hf, hz, hr, hl⟩ := R
  obtain ⟨t', order, e, pm, tm, ts, tr, td, tl, tp⟩ := laid_ok hw t.finger (t.movedTo (SetTable.sizeAbove wanted - 1)) t.led t.plain (es.map (·.1)) (by rw [Array.size_map, hz]; exact hn)
  rw [Array.size_map] at pm ts
  have er : t.relaid (es.map (·.1)) wanted = some (t', order) := e
  have pe := order_es es order pm
  have sz : (order.filterMap fun i => es[i]?).size = es.size := by
    have := pe.length_eq
    rw [Array.length_toList, Array.length_toList] at this
    exact this
  rw [setRelay_eq]
  refine wpAny_bind (wpAny_setState_of ho hd hf ?_)
  dsimp only
  have s1 := sizeLine_eq
  refine wp_if_neg (show ¬ SetTable.sizeAbove wanted > sizeLine by omega) ?_
  try refine wpAny_bind (wpAny_pure ?_)
  rw [er]
  dsimp only
  refine wpAny_bind ?_
  refine wp_if_neg (by rw [sz]; exact fun z => by simp at z) ?_
  try refine wpAny_bind (wpAny_pure ?_)
  refine wpAny_pure ?_
  dsimp only
  refine wpAny_storeSet_of ho hd ?_ (by rw [sz]; have : scanBound = 4096 := rfl; omega)
  refine hQ _ (Heap.SameBut.update ..) (SetR.other ho hex hd es pe g nd hm hb hz (fits_of (by rw [sz]; exact ts) td (by rw [sz, tm, hz]; exact hn)) tr (hl.imp id fun z => by rw [tl]; exact z)) ⟨_, _, _, t', store_at ho hd, rfl, tm, td⟩
theorem sizes_all : (List.range 97).all (fun k => ([7, 15, 31, 63, 127, 255] : List Nat).contains (SetTable.sizeAbove (2 * k) - 1) && decide (SetTable.sizeAbove (2 * k) ≤ 256) && decide (2 * k < SetTable.sizeAbove (2 * k))) = true := by decide +kernel
theorem size_ok {k : Nat} (h : k ≤ 96) : RoundOk (SetTable.sizeAbove (k * 2) - 1) = true ∧ SetTable.sizeAbove (k * 2) ≤ 256 ∧ k * 2 < SetTable.sizeAbove (k * 2) := by
  have := List.all_eq_true.mp sizes_all k (List.mem_range.mpr (by omega))
  rw [Bool.and_eq_true, Bool.and_eq_true] at this
  rw [Nat.mul_comm k 2]
  exact ⟨List.all_eq_true.mp round_all _ (List.contains_iff_mem.mp this.1.1), of_decide_eq_true this.1.2, of_decide_eq_true this.2⟩
/-- room for more -/
theorem roomS {more : Nat} {Q : Unit → Shared → Prop} (R : SetR w s.heap a S n) (hk : n + more ≤ 96)
    (hQ : ∀ h', Heap.SameBut a s.heap h' → SetR w h' a S n → (n = 0 → (s.heap.get? a).map (·.data) = some (.set #[] 0 (.fresh 0 0 (!w.params.followText "set-order"))) → ∃ o es ep t, h'.get? a = some o ∧ o.data = .set es ep t ∧ RoundOk t.mask = true ∧ more ≤ t.mask ∧ t.dummies = #[]) → Q () { s with heap := h' }) : wpAny (model P w) A (setRoomFor a more) Q E s := by
  have R0 := R
  obtain ⟨o, es, ep, t, ho, hex, hd, g, nd, hm, hb, hf, hz, hr, hl⟩ := R
  have pz : t.place.size = n := by
    unfold SetTable.fits at hf
    rw [Bool.and_eq_true, beq_iff_eq] at hf
    rw [hf.1, hz]
  unfold setRoomFor
  refine wpAny_bind (wpAny_setState_of ho hd hf ?_)
  dsimp only
  unfold SetTable.roomFor
  by_cases q : (t.fill + more) * 5 ≥ t.mask * 3
  · rw [if_pos q]
    dsimp only
    rw [pz]
    obtain ⟨k1, k2, k3⟩ := size_ok hk
    refine relayS R0 k1 k2 (by omega) fun h' sb R' hx => hQ h' sb R' fun _ _ => ?_
    obtain ⟨o', es', ep', t', x1, x2, x3, x4⟩ := hx
    exact ⟨o', es', ep', t', x1, x2, by rw [x3]; exact k1, by rw [x3]; omega, x4⟩
  · rw [if_neg q]
    refine wpAny_pure (hQ s.heap (Heap.SameBut.refl _ _) R0 fun n0 hh => ?_)
    rw [ho, Option.map_some, Option.some.injEq, hd] at hh
    obtain ⟨rfl, rfl, rfl⟩ := by simpa using hh
    refine ⟨o, _, _, _, ho, hd, show RoundOk 7 = true by decide +kernel, ?_, rfl⟩
    have : ¬ ((0 + more) * 5 ≥ 7 * 3) := q
    show more ≤ 7
    omega
end
end SY

/-! sets of ints: merged, the union of two -/
namespace SY
open PySem PySem.Spec PyProof.Rows L2
section
variable {P : Program} {w : World} {A : Around} {E : Value → Shared → Prop} {s : Shared} {a o : Addr} {S S2 : Int → Bool} {n n2 : Nat}
theorem walkS {es : Array (Int × Value)} {ob : Obj} {ep : Nat} {t : SetTable} {Q : Array (Int × Value) → Shared → Prop} (ho : s.heap.get? o = some ob) (hd : ob.data = .set es ep t) (hf : t.fits es.size = true) (hl : w.params.followText "set-order" = true ∨ t.led = true) (hp : w.params.followText "set-order" = true ∨ t.plain = true ∨ es.size ≤ 1) (h : ∀ es', es'.toList.Perm es.toList → Q es' s) : wpAny (model P w) A (setWalk o) Q E s := by
  unfold setWalk
  refine wpAny_bind (wpAny_setState_of ho hd hf ?_)
  dsimp only
  refine wpAny_bind (wpAny_byText ?_)
  by_cases bt : w.params.followText "set-order" = true
  · refine wp_if_pos bt ?_
    exact wpAny_bind (wpAny_askSetting (wpAny_pure (h _ (pick_perm _ _))))
  · refine wp_if_neg bt ?_
    have hl := hl.resolve_left bt
    have hp := hp.resolve_left bt
    have nd : (!t.plain && decide (es.size > 1)) = false := by
      rcases hp with q | q
      · rw [q]; rfl
      · rw [decide_eq_false (by omega)]; cases t.plain <;> rfl
    try refine wpAny_bind (wpAny_pure ?_)
    refine wp_if_neg (by show ¬ ((!t.plain && decide (es.size > 1)) = true); rw [nd]; exact Bool.false_ne_true) ?_
    try refine wpAny_bind (wpAny_pure ?_)
    refine wpAny_bind (wpAny_of_eq (a := ()) ?_ (wpAny_pure (h es (List.Perm.refl _))))
    show (if (!t.led && decide (es.size > 1)) = true then unsupported "set:maker-not-led" else pure ()) = pure ()
    rw [hl]; rfl
theorem quietS {l : List Addr} (h : ∀ b ∈ l, ∃ ob es ep t, s.heap.get? b = some ob ∧ ob.data = .set es ep t ∧ t.fits es.size = true ∧ ∀ e ∈ es.toList, GoodE e) {Q : Bool → Shared → Prop} (hQ : Q true s) : wpAny (model P w) A (setsQuiet l) Q E s := by
  unfold setsQuiet
  refine wpAny_bind (wpAny_mono (wpAny_forIn_list _ (fun rest b s' => b = ((none : Option Bool), ()) ∧ s' = s ∧ ∀ x ∈ rest, x ∈ l) (fun b s' => b = ((none : Option Bool), ()) ∧ s' = s) ?turn ?fin _ _ ⟨rfl, rfl, fun x hx => hx⟩) ?post fun _ _ z => z)
  case turn =>
    rintro x rest b s' ⟨rfl, rfl, hr⟩
    obtain ⟨ob, es, ep, t, ho, hd, hf, hg⟩ := h x (hr x (by simp))
    unfold setEntries
    refine wpAny_bind (wpAny_bind (wpAny_setState_of ho hd hf (wpAny_pure ?_)))
    dsimp only
    refine wpAny_bind (wpAny_mono (MeetsSeq2.wpAny_forIn_array _ (fun rest b s2 => b = ((none : Option Bool), ()) ∧ s2 = s' ∧ ∀ e ∈ rest, e ∈ es.toList) (fun b s2 => b = ((none : Option Bool), ()) ∧ s2 = s') ?t2 ?f2 _ _ ⟨rfl, rfl, fun e he => he⟩) ?p2 fun _ _ z => z)
    case t2 =>
      rintro e rest b s2 ⟨rfl, rfl, hr⟩
      obtain ⟨k, tk, e1, e2⟩ := hg e (hr e (by simp))
      obtain ⟨hs, v⟩ := e
      simp only at e1
      subst e1
      exact wpAny_pure ⟨rfl, rfl, fun y hy => hr y (by simp [hy])⟩
    case f2 =>
      rintro b s2 ⟨rfl, rfl, _⟩
      exact ⟨rfl, rfl⟩
    case p2 =>
      rintro b s2 ⟨rfl, rfl⟩
      exact wpAny_pure ⟨rfl, rfl, fun y hy => hr y (by simp [hy])⟩
  case fin =>
    rintro b s' ⟨rfl, rfl, _⟩
    exact ⟨rfl, rfl⟩
  case post =>
    rintro b s' ⟨rfl, rfl⟩
    exact wpAny_pure hQ
/-- the walk of a merge -/
theorem unseenS {es : Array (Int × Value)} {ob : Obj} {ep : Nat} {t : SetTable} {Q : Array (Int × Value) → Shared → Prop} (R : SetR w s.heap a S n) (ne : o ≠ a) (ho : s.heap.get? o = some ob) (hd : ob.data = .set es ep t) (hf : t.fits es.size = true) (hg : ∀ e ∈ es.toList, GoodE e) (hl : w.params.followText "set-order" = true ∨ t.led = true)
    (h : ∀ es' h', es'.toList.Perm es.toList → Heap.SameBut a s.heap h' → SetR w h' a S n → Q es' { s with heap := h' }) : wpAny (model P w) A (setWalkUnseen o [a] (some a)) Q E s := by
  unfold setWalkUnseen
  refine wpAny_bind (wpAny_setState_of ho hd hf ?_)
  dsimp only
  refine wpAny_bind (wpAny_byText ?_)
  have same := fun es' pm => h es' s.heap pm (Heap.SameBut.refl _ _) R
  by_cases q : (w.params.followText "set-order" || t.led && t.plain || decide (es.size ≤ 1)) = true
  · refine wp_if_pos q ?_
    refine walkS ho hd hf hl ?_ fun es' pm => same es' pm
    rw [Bool.or_eq_true, Bool.or_eq_true, Bool.and_eq_true, decide_eq_true_eq] at q
    rcases q with (q | q) | q
    · exact .inl q
    · exact .inr (.inl q.2)
    · exact .inr (.inr q)
  · refine wp_if_neg q ?_
    try refine wpAny_bind (wpAny_pure ?_)
    have bt : w.params.followText "set-order" = false := by
      cases z : w.params.followText "set-order"
      · rfl
      · rw [z] at q; simp at q
    have lt := hl.resolve_left (by rw [bt]; exact Bool.false_ne_true)
    obtain ⟨o2, es2, ep2, t2, ho2, hex2, hd2, hg2, nd2, hm2, hb2, hf2, hz2, hr2, hl2⟩ := R
    have l2 := hl2.resolve_left (by rw [bt]; exact Bool.false_ne_true)
    refine wpAny_bind (quietS (fun b hb => ?_) ?_)
    · rcases List.mem_cons.mp hb with rfl | hb
      · exact ⟨ob, es, ep, t, ho, hd, hf, hg⟩
      · rw [List.mem_singleton.mp hb]
        exact ⟨o2, es2, ep2, t2, ho2, hd2, hf2, hg2⟩
    refine wp_if_neg (by simp) ?_
    try refine wpAny_bind (wpAny_pure ?_)
    refine wpAny_bind (wpAny_rule ?_)
    try dsimp only
    refine wpAny_bind (wpAny_setState_of ho2 hd2 hf2 ?_)
    dsimp only
    by_cases c : ((t2.led && !t.led) || (t2.plain && !t.plain)) = true
    · refine wp_if_pos c (wpAny_bind ?_)
      refine wpAny_storeSet_of ho2 hd2 (wpAny_pure ?_) (by have : scanBound = 4096 := rfl; have := sizeLine_eq; omega)
      refine h es _ (List.Perm.refl _) (Heap.SameBut.update ..) ?_
      exact SetR.other ho2 hex2 hd2 es2 (List.Perm.refl _) hg2 nd2 hm2 hb2 hz2 hf2 hr2 (.inr (by show (t2.led && t.led) = true; rw [l2, lt]; rfl))
    · exact wp_if_neg c (wpAny_pure (same es (List.Perm.refl _)))
/-- one into another -/
theorem mergeS {each : Sem Unit} {Q : Unit → Shared → Prop} (R : SetR w s.heap a S n) (O : SetR w s.heap o S2 n2) (ne : a ≠ o) (hk : n + n2 ≤ 96)
    (hfr : n = 0 → (s.heap.get? a).map (·.data) = some (.set #[] 0 (.fresh 0 0 (!w.params.followText "set-order"))))
    (he : ∀ (s' : Shared) (Q' : Unit → Shared → Prop), s'.heap.get? o = s.heap.get? o → Q' () s' → wpAny (model P w) A each Q' E s')
    (hQ : ∀ h' n', Heap.SameBut a s.heap h' → SetR w h' a (fun k => S k || S2 k) n' → n' ≤ n + n2 → Q () { s with heap := h' }) : wpAny (model P w) A (setMerge a o each) Q E s := by
  have R0 := R
  have O0 := O
  obtain ⟨ob, es, ep, t, ho, hex, hd, g, nd, hm, hb, hf, hz, hr, hl⟩ := O
  unfold setMerge
  refine wp_if_neg (by simpa using ne) ?_
  try refine wpAny_bind (wpAny_pure ?_)
  refine wpAny_bind (wpAny_setState_of ho hd hf ?_)
  dsimp only
  by_cases e0 : es.isEmpty = true
  · refine wp_if_pos e0 (wpAny_pure ?_)
    have z2 : ∀ k, S2 k = false := fun k => by
      cases q : S2 k
      · rfl
      · have := (hm k).mp q
        have em : es = #[] := by simpa using e0
        rw [em] at this
        simp at this
    exact hQ s.heap n (Heap.SameBut.refl _ _) (R0.congr fun k => by rw [z2 k, Bool.or_false]) (by omega)
  · refine wp_if_neg e0 ?_
    try refine wpAny_bind (wpAny_pure ?_)
    have n2p : 0 < n2 := by
      rcases Nat.eq_zero_or_pos n2 with q | q
      · exfalso
        rw [q] at hz
        exact e0 (by simp [Array.size_eq_zero_iff.mp hz])
      · exact q
    refine wpAny_bind (roomS R0 (by rw [hz]; exact hk) fun h1 sb1 R1 fr1 => ?_)
    have ho1 : h1.get? o = some ob := by rw [sb1.2 o fun z => ne z.symm]; exact ho
    have R1' := R1
    obtain ⟨o2, es2, ep2, t2, ho2, hex2, hd2, hg2, nd2, hm2, hb2, hf2, hz2, hr2, hl2⟩ := R1
    refine wpAny_bind (wpAny_setState_of ho2 hd2 hf2 ?_)
    dsimp only
    have pz : t2.place.size = n := by
      unfold SetTable.fits at hf2
      rw [Bool.and_eq_true, beq_iff_eq] at hf2
      rw [hf2.1, hz2]
    have led : w.params.followText "set-order" = true ∨ (t2.led && t.led) = true := by
      rcases hl with q | q
      · exact .inl q
      · rcases hl2 with q2 | q2
        · exact .inl q2
        · exact .inr (by rw [q, q2]; rfl)
    by_cases f0 : t2.fill = 0
    · -- into an empty one
      have n0 : n = 0 := by
        unfold SetTable.fill at f0
        omega
      obtain ⟨o3, es3, ep3, t3, x1, x2, x3, x4, x5⟩ := fr1 n0 (hfr n0)
      obtain rfl : o2 = o3 := Option.some.inj (ho2.symm.trans x1)
      have : Data.set es2 ep2 t2 = Data.set es3 ep3 t3 := hd2.symm.trans x2
      obtain ⟨rfl, rfl, rfl⟩ := by simpa using this
      have sk : ∀ k, S k = false := fun k => by
        cases q : S k
        · rfl
        · have := (hm2 k).mp q
          have em : es2 = #[] := Array.size_eq_zero_iff.mp (by rw [hz2, n0])
          rw [em] at this
          simp at this
      have hmS : ∀ k, (S k || S2 k) = true ↔ k ∈ es.toList.map L2.keyOf := fun k => by rw [sk k, Bool.false_or]; exact hm k
      by_cases c : (t2.mask == t.mask && t.dummies.isEmpty) = true
      · have er : t2.road t = .slotForSlot := by
          unfold SetTable.road
          rw [f0, if_neg (by simp), if_pos c]
        rw [er]
        dsimp only
        refine wpAny_storeSet_of ho2 hd2 ?_ (by have : scanBound = 4096 := rfl; have := sizeLine_eq; omega)
        exact hQ _ n2 (sb1.trans (Heap.SameBut.update ..)) (SetR.other (h := h1) ho2 hex2 hd2 es (List.Perm.refl _) g nd hmS hb hz hf hr led) (by omega)
      · have er : t2.road t = .clean := by
          unfold SetTable.road
          rw [f0, if_neg (by simp), if_neg c]
        rw [er]
        dsimp only
        obtain ⟨t', order, e, pm, tm, ts, tr, td, tl, tp⟩ := laid_ok x3 t2.finger t2.moves (t2.led && t.led) (t2.plain && t.plain) (es.map (·.1)) (by rw [Array.size_map]; exact x4)
        rw [Array.size_map] at pm ts
        have pe := order_es es order pm
        have sz : (order.filterMap fun i => es[i]?).size = es.size := by
          have := pe.length_eq
          rw [Array.length_toList, Array.length_toList] at this
          exact this
        rw [e]
        try dsimp only
        refine wpAny_bind ?_
        refine wp_if_neg (by rw [sz]; exact fun z => by simp at z) ?_
        try refine wpAny_bind (wpAny_pure ?_)
        refine wpAny_pure ?_
        dsimp only
        refine wpAny_storeSet_of ho2 hd2 ?_ (by rw [sz]; have : scanBound = 4096 := rfl; have := sizeLine_eq; omega)
        exact hQ _ n2 (sb1.trans (Heap.SameBut.update ..)) (SetR.other (h := h1) ho2 hex2 hd2 es pe g nd hmS hb hz (fits_of (by rw [sz]; exact ts) td (by rw [sz, tm]; exact x4)) tr (by rw [tl]; exact led)) (by omega)
    · have er : t2.road t = .oneByOne := by
        unfold SetTable.road
        rw [if_pos (by simpa using f0)]
      rw [er]
      dsimp only
      refine wpAny_bind (unseenS R1' (fun z => ne z.symm) ho1 hd hf g hl fun es' h2 pm sb2 R2 => ?_)
      refine wpAny_bind (wpAny_mono (MeetsSeq2.wpAny_forIn_array _ (fun rest b s' => ∃ h3 n3 done, s' = { s with heap := h3 } ∧ Heap.SameBut a s.heap h3 ∧ done ++ rest = es'.toList ∧ SetR w h3 a (fun k => S k || decide (k ∈ done.map L2.keyOf)) n3 ∧ n3 ≤ n + done.length) (fun b s' => Q () s') ?turn ?fin _ _ ⟨h2, n, [], rfl, sb1.trans sb2, rfl, R2.congr fun k => by simp, by simp⟩) (fun b s' q => wpAny_pure q) fun _ _ z => z)
      case turn =>
        rintro e rest b s' ⟨h3, n3, done, rfl, sb3, dr, R3, l3⟩
        have me : e ∈ es'.toList := by rw [← dr]; simp
        obtain ⟨k, tk, e1, e2⟩ := g e (pm.mem_iff.mp me)
        obtain ⟨hs, v⟩ := e
        simp only at e1 e2
        subst e1
        subst e2
        have ll : done.length + 1 ≤ n2 := by
          have a1 := congrArg List.length dr
          have a2 := pm.length_eq
          rw [List.length_append, List.length_cons] at a1
          rw [Array.length_toList (xs := es), hz] at a2
          omega
        dsimp only
        refine wpAny_bind (wpAny_holding ?_)
        refine setR_add_hashed (s := { s with heap := h3 }) R3 (by have : scanBound = 4096 := rfl; omega) fun h4 sb4 R4 => ?_
        have ho4 : h4.get? o = s.heap.get? o := ((sb3.trans sb4).2 o fun z => ne z.symm)
        refine wpAny_bind (he _ _ ho4 ?_)
        refine wpAny_bind (wpAny_setState_of (ho4.trans ho) hd hf ?_)
        dsimp only
        refine wp_if_neg (by simp) ?_
        try refine wpAny_bind (wpAny_pure ?_)
        refine wpAny_pure ?_
        refine ⟨h4, _, done ++ [(hashInt k, Value.int k tk)], rfl, sb3.trans sb4, by rw [← dr]; simp, R4.congr fun j => ?_, ?_⟩
        · rw [List.map_append]
          have : ([(hashInt k, Value.int k tk)] : List (Int × Value)).map L2.keyOf = [k] := rfl
          rw [this]
          by_cases q : j = k
          · subst q
            simp
          · have : (j ∈ done.map L2.keyOf ++ [k]) ↔ j ∈ done.map L2.keyOf := by
              rw [List.mem_append, List.mem_singleton]
              exact or_iff_left q
            rw [decide_eq_false q, Bool.or_false, decide_eq_decide.mpr this]
        · rw [List.length_append, List.length_singleton]
          split <;> omega
      case fin =>
        rintro b s' ⟨h3, n3, done, rfl, sb3, dr, R3, l3⟩
        rw [List.append_nil] at dr
        have ld : done.length = n2 := by
          have a1 := congrArg List.length dr
          have a2 := pm.length_eq
          rw [Array.length_toList (xs := es), hz] at a2
          omega
        refine hQ h3 n3 sb3 (R3.congr fun k => ?_) (by omega)
        congr 1
        rw [dr]
        cases q : S2 k
        · refine (decide_eq_false fun z => ?_).symm
          have := (hm k).mpr ((pm.map L2.keyOf).mem_iff.mp z)
          rw [q] at this
          cases this
        · exact (decide_eq_true ((pm.map L2.keyOf).mem_iff.mpr ((hm k).mp q))).symm
end
end SY

/-! set(a list of ints) -/
namespace SY
open PySem PySem.Spec PyProof.Rows L2
/-- a set as it is made -/
def newO (w : World) : Obj := Obj.mk (Value.type "set") none (Data.set #[] 0 (SetTable.fresh 0 0 (!w.params.followText "set-order"))) #[]
section
variable {P : Program} {w : World} {A : Around} {E : Value → Shared → Prop} {s : Shared} {l S : Addr} {items : Array Value}
theorem updL {id : String} {Q : Unit → Shared → Prop} (ns : List Int) (hh : A.handled = none) (hS : s.heap.get? S = some (newO w)) (ne : l ≠ S) (hl : s.heap.IsList l items) (ia : IntsAre items.toList ns) (nb : ns.length + 1 < scanBound)
    (hQ : ∀ h' tk c, SetR w h' S (fun j => decide (j ∈ ns)) c → c ≤ ns.length → (∀ b o, b ≠ S → s.heap.get? b = some o → h'.get? b = some o) → Q () { s with heap := h', toks := tk }) :
    wpAny (model P w) A (Builtin.Frozenset.updateFrom id S (.ref l)) Q E s := by
  have tl : s.TypeIs (.ref l) "list" := hl.elim fun o h => ⟨o, h.1, h.2.1⟩
  have ltl : l < s.heap.objs.size := hl.elim fun o h => Heap.lt_size h.1
  have ltS : S < s.heap.objs.size := Heap.lt_size hS
  have sz : items.size = ns.length := Array.length_toList.symm.trans (IntsAre.length ia)
  unfold Builtin.Frozenset.updateFrom Builtin.Frozenset.isAnySet orM
  refine wpAny_bind (wpAny_bind (wpAny_isInstance tl F.sub_list_set (wpAny_isInstance tl F.sub_list_frozenset ?_)))
  refine wp_if_neg Bool.false_ne_true (wpAny_bind (wpAny_typeOf tl (wp_if_neg (by decide) (wpAny_bind ?_))))
  refine wpAny_pyIter_list hl (wpAny_bind (wpAny_runValue ?_))
  have at_ : ∀ (i : Nat) (v : Value), items[i]? = some v → ∃ k t, ns[i]? = some k ∧ v = .int k t := fun i v hv => by
    obtain ⟨t, e⟩ := IntsAre.int_at ia i v (by rw [Array.getElem?_toList, hv])
    have lt : i < ns.length := sz ▸ (Array.getElem?_eq_some_iff.mp hv).1
    have g := List.getElem?_eq_getElem lt
    exact ⟨ns[i], t, g, by rw [e, List.getD_eq_getElem?_getD, g]; rfl⟩
  have off : S ∉ [s.heap.objs.size, l] := fun z => (List.mem_cons.mp z).elim (fun e => Nat.lt_irrefl _ (e ▸ ltS)) fun e => ne (List.mem_singleton.mp e).symm
  refine set_update_ints (Walks.list (by simp [hh]) _ l (Nat.ne_of_lt ltl) items).toS S off ns sz nb at_ items.size 0 _ rfl (Nat.zero_le _) ⟨⟨_, Heap.get?_push_size _ rfl, rfl, rfl⟩, hl.push _⟩ ⟨0, Nat.le_refl 0, setR_new_at (Heap.get?_push_of_some _ hS)⟩ fun s' c mv cn R => ?_
  obtain ⟨h', gs, dr, tk, os⟩ := s'
  obtain rfl : gs = s.gens := mv.gens
  obtain rfl : dr = s.drawn := mv.drawn
  obtain rfl : os = s.os := mv.os
  refine wpAny_pure (hQ h' tk c R (sz ▸ cn) fun b o nb e => mv.heap b o (fun z => ?_) (Heap.get?_push_of_some _ e))
  have ltb := Heap.lt_size e
  simp only [List.mem_cons, List.not_mem_nil, or_false] at z
  exact z.elim nb fun z => Nat.lt_irrefl _ (z ▸ ltb)
/-- what set.__init__ leaves -/
def InitL (w : World) (s : Shared) (ns : List Int) (r : Value) (s2 : Shared) : Prop := r = .none ∧ ∃ h' tk c, s2 = { s with heap := h', toks := tk } ∧ SetR w h' s.heap.objs.size (fun j => decide (j ∈ ns)) c ∧ c ≤ ns.length ∧ ∀ b o, s.heap.get? b = some o → h'.get? b = some o
theorem initL (ns : List Int) (hh : A.handled = none) (hl : s.heap.IsList l items) (ia : IntsAre items.toList ns) (nb : ns.length + 1 < scanBound) :
    codeAny (model P w) A (.call (.builtin "set.__init__") ⟨[.ref s.heap.objs.size, .ref l], []⟩) (wants (InitL w s ns) E) { s with heap := s.heap.push (newO w) } := by
  have hS : (s.heap.push (newO w)).get? s.heap.objs.size = some (newO w) := Heap.get?_push_size _ rfl
  have ltl : l < s.heap.objs.size := hl.elim fun o h => Heap.lt_size h.1
  refine codeAny_call_builtin F.called_set.init.plain F.entry_set_init (check_set_init_1 ⟨_, hS, rfl⟩ ?_)
  unfold Builtin.«set.__init__» noKeywords
  generalize hU : Builtin.Frozenset.updateFrom = U
  wp_walk
  subst hU
  refine updL (s := { s with heap := s.heap.push (newO w) }) (A := A.in1) ns (by simp [hh]) hS (Nat.ne_of_lt ltl) (hl.push _) ia nb fun h' tk c R cn k => ?_
  show wpAny _ _ (ret Value.none) _ _ _
  refine wpAny_pure ⟨rfl, h', tk, c, rfl, R, cn, fun b o e => k b o (fun z => ?_) (Heap.get?_push_of_some _ e)⟩
  have ltb := Heap.lt_size e
  exact Nat.lt_irrefl _ (z ▸ ltb)
theorem setL (ns : List Int) {Q : Value → Shared → Prop} (hh : A.handled = none) (hl : s.heap.IsList l items) (ia : IntsAre items.toList ns) (nb : ns.length + 1 < scanBound)
    (hQ : ∀ h' tk c, SetR w h' s.heap.objs.size (fun j => decide (j ∈ ns)) c → c ≤ ns.length → (∀ b o, s.heap.get? b = some o → h'.get? b = some o) → Q (.ref s.heap.objs.size) { s with heap := h', toks := tk }) :
    wpAny (model P w) A (call (.type "set") [.ref l]) Q E s := by
  have ty := F.called_set
  obtain ⟨_, _, mro⟩ := ty.mro
  obtain ⟨made, sub, nt, cc⟩ : _ ∧ _ ∧ _ ∧ _ := ⟨ty.made, ty.sub, ty.notType, ty.canCreate⟩
  obtain ⟨ct, li, bi⟩ : _ ∧ _ ∧ _ := ⟨F.typeCall_set_1 (.ref l), ty.init.lookup, ty.init.bind (.ref s.heap.objs.size)⟩
  refine wpAny_call (codeAny_of_tree (show wpAny _ _ (callAny (.type "set") _) _ _ _ from wpAny_pure ⟨Code.quiet_builtin _ (by decide +kernel), codeAny_builtin F.entry_type_call ?_⟩))
  rw [Around.under_plain (weight_type_call_type "set" [Value.ref l] []) rfl]; repeat (any_goals (first | assumption | wp_step))
  refine codeAny_mono (code_set_led1 (.ref l) (E := E) (Q₁ := fun v s1 => v = .ref s.heap.objs.size ∧ s1 = { s with heap := s.heap.push (newO w) }) ⟨rfl, rfl⟩) ?_
  have tS : Shared.TypeIs { s with heap := s.heap.push (newO w) } (.ref s.heap.objs.size) "set" := ⟨newO w, Heap.get?_push_size _ rfl, rfl⟩
  rintro (e | (_ | _ | _ | v)) s1 r
  · exact r
  · exact r.elim
  · exact r.elim
  · exact r.elim
  obtain ⟨rfl, rfl⟩ := r; repeat (any_goals (first | assumption | wp_step))
  refine codeAny_mono (initL (E := E) ns (by simp [hh]) hl ia nb) ?_
  rintro (e | (_ | _ | _ | v)) s2 r
  · exact r
  · exact r.elim
  · exact r.elim
  · exact r.elim
  obtain ⟨rfl, h', tk, c, rfl, R, cn, k⟩ := r; repeat (any_goals (first | assumption | wp_step))
  exact hQ h' tk c R cn k
end
end SY

/-! one set of ints | another -/
namespace SY
open PySem PySem.Spec PyProof.Rows L2
theorem entry_set_or : entryFor table "set.__or__" = some Builtin.«frozenset.__or__» := entryFor_alias (id' := "frozenset.__or__") (by kernel_rfl) rfl (by decide +kernel) (by kernel_rfl)
section
variable {P : Program} {w : World} {A : Around} {E : Value → Shared → Prop} {s : Shared} {a o : Addr} {S S2 : Int → Bool} {n n2 : Nat}
theorem setR_typ (R : SetR w s.heap a S n) : s.TypeIs (.ref a) "set" := by
  obtain ⟨o, es, ep, t, ho, hex, _⟩ := R
  exact ⟨o, ho, hex.1⟩
theorem anyS (h : s.TypeIs (.ref a) "set") {Q : Bool → Shared → Prop} (q : Q true s) : wpAny (model P w) A (Builtin.Frozenset.isAnySet (.ref a)) Q E s := by
  unfold Builtin.Frozenset.isAnySet orM
  refine wpAny_bind (wpAny_isInstance h sub_set_self ?_)
  exact wpAny_pure q
theorem mergeE {each : Sem Unit} {Q : Unit → Shared → Prop} (O : SetR w s.heap o S2 0) (ne : a ≠ o) (hQ : Q () s) : wpAny (model P w) A (setMerge a o each) Q E s := by
  obtain ⟨ob, es, ep, t, ho, hex, hd, g, nd, hm, hb, hf, hz, hr, hl⟩ := O
  unfold setMerge
  refine wp_if_neg (by simpa using ne) ?_
  try refine wpAny_bind (wpAny_pure ?_)
  refine wpAny_bind (wpAny_setState_of ho hd hf ?_)
  dsimp only
  exact wp_if_pos (by simpa using Array.size_eq_zero_iff.mp hz) (wpAny_pure hQ)
theorem setR_none {h : Heap} (R : SetR w h a S 0) (k : Int) : S k = false := by
  obtain ⟨ob, es, ep, t, ho, hex, hd, g, nd, hm, hb, hf, hz, hr, hl⟩ := R
  cases q : S k
  · rfl
  · have := (hm k).mp q
    rw [Array.size_eq_zero_iff.mp hz] at this
    simp at this
theorem setR_some {h : Heap} (R : SetR w h a S n) (hn : n ≠ 0) : ∃ k, S k = true := by
  obtain ⟨ob, es, ep, t, ho, hex, hd, g, nd, hm, hb, hf, hz, hr, hl⟩ := R
  have : 0 < es.size := by omega
  exact ⟨L2.keyOf es[0], (hm _).mpr (List.mem_map.mpr ⟨es[0], by simp, rfl⟩)⟩
theorem copyS {Q : Value → Shared → Prop} (R : SetR w s.heap a S n) (hk : n ≤ 96)
    (hQ : ∀ h' n', (∀ b u, s.heap.get? b = some u → h'.get? b = some u) → SetR w h' s.heap.objs.size S n' → n' ≤ n → (n' = 0 → (h'.get? s.heap.objs.size).map (·.data) = some (.set #[] 0 (.fresh 0 0 (!w.params.followText "set-order")))) → Q (.ref s.heap.objs.size) { s with heap := h' }) :
    wpAny (model P w) A (Builtin.Frozenset.copyOf a) Q E s := by
  unfold Builtin.Frozenset.copyOf Builtin.Frozenset.baseOf
  have lt := R.lt
  refine wpAny_bind (wpAny_bind (wpAny_isInstance (setR_typ R) sub_set_self (wpAny_pure ?_)))
  refine wpAny_bind (PpSet.newSet_ok ?_)
  unfold Builtin.Frozenset.addrOf
  refine wpAny_bind (wpAny_pure ?_)
  have keep : ∀ (x : Obj) (b : Addr) (u : Obj), s.heap.get? b = some u → (s.heap.push x).get? b = some u := fun x b u e => Heap.get?_push_of_some _ e
  have ne : s.heap.objs.size ≠ a := fun z => Nat.lt_irrefl _ (z ▸ lt)
  by_cases n0 : n = 0
  · subst n0
    refine wpAny_bind (mergeE (S2 := S) (R.at (keep _ a)) ne (wpAny_pure ?_))
    exact hQ _ 0 (keep _) ((setR_fresh (h := s.heap) w).congr fun k => setR_none R k) (Nat.le_refl _) fun _ => congrArg (Option.map _) (Heap.get?_push_size _ rfl)
  · refine wpAny_bind (mergeS (setR_fresh (h := s.heap) w) (R.at (keep _ a)) ne (by omega) (fun _ => ?_) (fun s' Q' _ q => wpAny_pure q) fun h' n' sb R' hn' => wpAny_pure ?_)
    · exact congrArg (Option.map _) (Heap.get?_push_size _ rfl)
    · have R2 : SetR w h' s.heap.objs.size S n' := R'.congr fun k => by rw [Bool.false_or]
      refine hQ h' n' (fun b u e => ?_) R2 (by omega) fun z => ?_
      · have hb := Heap.lt_size e
        rw [sb.2 b (fun z => Nat.lt_irrefl _ (z ▸ hb))]
        exact keep _ b u e
      · exfalso
        obtain ⟨k, hk⟩ := setR_some R n0
        subst z
        rw [setR_none R2 k] at hk
        cases hk
theorem orSS {Q : Value → Shared → Prop} (R : SetR w s.heap a S n) (R2 : SetR w s.heap o S2 n2) (ne : a ≠ o) (hk : n + n2 ≤ 96)
    (hQ : ∀ h' n', (∀ b u, s.heap.get? b = some u → h'.get? b = some u) → SetR w h' s.heap.objs.size (fun k => S k || S2 k) n' → n' ≤ n + n2 → Q (.ref s.heap.objs.size) { s with heap := h' }) :
    wpAny (model P w) A (binaryOp .BitOr (.ref a) (.ref o)) Q E s := by
  refine wpAny_binaryOp_same (op := .BitOr) (T := "set") (setR_typ R) (setR_typ R2) F.fills_set_or F.slot_set_or (wpAny_call_entry F.slot_set_or (setR_typ R) entry_set_or ?_ (F.args_set_or_2 _ _))
  refine wpAny_bind (m := Builtin.Frozenset.slot1 "__or__" _) (wpAny_of_eq (a := (Value.ref a, Value.ref o)) (by rfl) ?_)
  dsimp only
  unfold andM
  refine wpAny_bind (wpAny_bind (anyS (setR_typ R) (anyS (setR_typ R2) ?_)))
  refine wp_if_neg (by simp) ?_
  rw [if_neg Bool.false_ne_true]
  dsimp only
  refine wpAny_bind (wpAny_of_eq (a := a) rfl ?_)
  refine wpAny_bind (wpAny_bind (copyS R (by omega) fun h1 n1 k1 R1 l1 f1 => ?_))
  refine wp_if_pos (by simpa using fun z => ne z.symm) ?_
  refine wpAny_bind (wpAny_of_eq (a := s.heap.objs.size) rfl (wpAny_bind (wpAny_holding ?_)))
  unfold Builtin.Frozenset.updateFrom
  have R2' : SetR w h1 o S2 n2 := R2.at (k1 o)
  refine wpAny_bind (anyS (s := { s with heap := h1 }) (setR_typ (s := { s with heap := h1 }) R2') ?_)
  refine wp_if_pos rfl ?_
  unfold Builtin.Frozenset.addrOf
  refine wpAny_bind (wpAny_pure ?_)
  unfold Builtin.Frozenset.merge
  have R2c := R2'
  obtain ⟨ob, es, ep, t, ho, hex, hd, g, nd, hm, hb, hf, hz, hr, hl⟩ := R2c
  have lt := R2.lt
  refine wpAny_bind (wpAny_setEpoch_of ho hd hf ?_)
  refine mergeS (s := { s with heap := h1 }) R1 R2' (fun z => Nat.lt_irrefl _ (z ▸ lt)) (by omega) f1 (fun s' Q' e' q => ?_) fun h' n' sb R' hn' => wpAny_pure (wpAny_pure ⟨_, rfl, by simp, ?_⟩)
  · unfold Builtin.Frozenset.unchanged
    refine wpAny_bind (wpAny_setEpoch_of (e'.trans ho) hd hf ?_)
    refine wp_if_neg (by simp) ?_
    exact wpAny_pure q
  · refine hQ h' n' (fun b u e => ?_) R' (by omega)
    have hb := Heap.lt_size e
    exact (sb.2 b (fun z => Nat.lt_irrefl _ (z ▸ hb))).trans (k1 b u e)
end
end SY

/-! sorted(a set of ints) -/
namespace SY
open PySem PySem.Spec PyProof.Rows L2
section
variable {P : Program} {w : World} {A : Around} {E : Value → Shared → Prop} {s : Shared} {a : Addr} {S : Int → Bool} {n : Nat}
theorem sortedS {Q : Value → Shared → Prop} (R : SetR w s.heap a S n) (hh : A.handled = none) (hk : n ≤ 96)
    (hQ : ∀ s' p (out : Array Value) (c : Nat) (ns : List Int), (∀ b o, s.heap.get? b = some o → s'.heap.get? b = some o) → s'.gens = s.gens → s'.os = s.os → s.heap.objs.size ≤ p → s'.heap.get? p = some (seqObj "list" out c) →
      IntsAre out.toList ns → ns.Pairwise (· < ·) → (∀ k, k ∈ ns ↔ S k = true) → ns.length = n → Q (.ref p) s') : wpAny (model P w) A (call (.builtin "sorted") [.ref a]) Q E s := by
  obtain ⟨ob, es, ep, t, ho, hex, hd, g, nd, hm, hb, hf, hn, hr, hl⟩ := R
  refine Calls.call_function_entry kind_sorted plain_sorted entry_sorted (args_sorted1 _) ?_
  unfold Builtin.«sorted»
  refine wpAny_bind (m := checkCount "sorted" 1 1 _) (wpAny_pure ?_)
  refine wpAny_bind (collect_set (A := A.in1) hh ⟨ob, ho, hex.1, hd⟩ hf hb hr hl fun s1 vs k1 z1 g1 o1 pm => ?_)
  have lv : vs.length = n := pm.length_eq.trans ((List.length_map ..).trans (Array.length_toList.trans hn))
  have iv : IntsAre vs (vs.map Builtin.Re.reRawOf) := ints_of vs fun v hv => (List.mem_map.mp (pm.mem_iff.mp hv)).elim fun e he => (g e he.1).elim fun k hk => hk.elim fun tk ht => ⟨k, tk, he.2.symm.trans ht.1⟩
  have pk : (vs.map Builtin.Re.reRawOf).Perm (es.toList.map L2.keyOf) := by
    have q := pm.map Builtin.Re.reRawOf
    rw [List.map_map] at q
    exact q
  have line : vs.length ≤ sizeLine := by rw [lv, sizeLine_eq]; omega
  refine wpAny_bind (wpAny_newList ?_ line)
  have hL : (s1.heap.push (seqObj "list" vs.toArray 0)).get? s1.heap.objs.size = some (seqObj "list" vs.toArray 0) := Heap.get?_push_size _ rfl
  refine wpAny_bind (wpAny_holding (wpAny_call_entry slot_list_sort ⟨_, hL, rfl⟩ entry_list_sort (SrtO.list_sort_ord SrtO.swo_int hL line (fun h2 => SrtO.ints_sortable iv h2) fun out h1 h2 => ⟨_, rfl, ?_⟩) (args_list_sort _)))
  obtain ⟨k2, k3, k4⟩ := SrtO.ints_out iv h1 h2
  obtain ⟨c, hc⟩ := sortedHeap_at (vs := vs) (out := out.toArray) hL
  have pn := k3.trans pk
  refine wpAny_pure ⟨_, rfl, hQ _ s1.heap.objs.size out.toArray c (out.map SrtO.iv) (fun b u e => ?_) g1 o1 z1 hc k2 (lt_of_le_nodup _ k4 (pn.nodup_iff.mpr nd)) (fun k => by rw [pn.mem_iff, ← hm k]) ?_⟩
  · have q := k1 b u e
    have lt := Heap.lt_size q
    exact (sortedHeap_old (Nat.ne_of_lt lt) (by rw [size_push']; exact Nat.lt_succ_of_lt lt)).trans (Heap.get?_push_of_some _ q)
  · exact pn.length_eq.trans ((List.length_map ..).trans (Array.length_toList.trans hn))
end
end SY

/-! sorted(set(a) | set(b)), lists of ints -/
namespace SY
open PySem PySem.Spec PyProof.Rows L2
/-- a set of ints, with its table -/
def SRO (w : World) (a : Addr) (S : Int → Bool) (n : Nat) : HO := .ext fun h => SetR w h a S n
theorem sro_new {P : Program} {w : World} {H : Hp} {h : Heap} {a : Addr} {S : Int → Bool} {n : Nat} (R : SetR w h a S n) : ObjOk P w H h a (SRO w a S n) :=
  ⟨R, by obtain ⟨o, es, ep, t, ho, _⟩ := R; exact ⟨o, ho⟩, fun h1 h2 r k => L2.SetR.at r k⟩
def rSetL (w : World) (K : PySem.W.Frag) : List V → Hp → VK → Prop := fun vs H Q => ∃ (a : Addr) (ns : List Int), vs = [V.ref a] ∧ SqL K H a (ns.map V.int) ∧ ns.length ≤ 48 ∧ ∀ p n, n ≤ ns.length → H p = none → Q (.ref p) (upd H p (SRO w p (fun j => decide (j ∈ ns)) n))
def rOrS (w : World) : R2 := fun x y H Q => ∃ (a o : Addr) (S S2 : Int → Bool) (n n2 : Nat), x = .ref a ∧ y = .ref o ∧ a ≠ o ∧ H a = some (SRO w a S n) ∧ H o = some (SRO w o S2 n2) ∧ n + n2 ≤ 96 ∧ ∀ p n', n' ≤ n + n2 → H p = none → Q (.ref p) (upd H p (SRO w p (fun k => S k || S2 k) n'))
def rSortS (w : World) : List V → Hp → VK → Prop := fun vs H Q => ∃ (a : Addr) (S : Int → Bool) (n : Nat), vs = [V.ref a] ∧ H a = some (SRO w a S n) ∧ n ≤ 96 ∧ ∀ (ns : List Int) p, ns.Pairwise (· < ·) → (∀ k, k ∈ ns ↔ S k = true) → H p = none → Q (.ref p) (upd H p (.lst (ns.map V.int)))
section
variable {X : Cx}
theorem cr_setL (hc : X.calm = true) : CallR X (.type "set") (rSetL X.w X.K) := by
  intro pins s σ H vs us Q I r h
  obtain ⟨a, ns, rfl, hs, hl, q⟩ := h
  obtain ⟨its, rv, hlt, hz⟩ := I.list hs
  rw [Vals.ref1 r]
  refine setL ns (I.ok.hd hc) hlt.isList (by simpa using rv.ints) (by have : scanBound = 4096 := rfl; omega) fun h' tk c R hcn k => ?_
  exact ⟨.ref _, upd H s.heap.objs.size (SRO X.w s.heap.objs.size (fun j => decide (j ∈ ns)) c), I.laid (t' := tk) k (Nat.le_refl _) (sro_new R), rfl, q _ _ hcn (I.hok.fresh (Nat.le_refl _))⟩
theorem op_orS : OpR X (binaryOp .BitOr) (rOrS X.w) := by
  intro pins s σ H x y v u Q I rx ry h
  obtain ⟨a, o, S, S2, n, n2, rfl, rfl, ne, ha, ho, hk, q⟩ := h
  cases rx
  cases ry
  have R1 : SetR X.w s.heap a S n := (I.hok a _ ha).1
  have R2 : SetR X.w s.heap o S2 n2 := (I.hok o _ ho).1
  refine orSS R1 R2 ne hk fun h' n' k R hn => ?_
  exact ⟨.ref _, upd H s.heap.objs.size (SRO X.w s.heap.objs.size (fun k => S k || S2 k) n'), I.laid (t' := s.toks) k (Nat.le_refl _) (sro_new R), rfl, q _ _ hn (I.hok.fresh (Nat.le_refl _))⟩
theorem cr_sortS (hc : X.calm = true) : CallR X (.builtin "sorted") (rSortS X.w) := by
  intro pins s σ H vs us Q I r h
  obtain ⟨a, S, n, rfl, ha, hk, q⟩ := h
  rw [Vals.ref1 r]
  have R1 : SetR X.w s.heap a S n := (I.hok a _ ha).1
  refine sortedS R1 (I.ok.hd hc) hk fun s' p out c ns k g o hp hg hi hs hm hl => ?_
  have new : ObjOk X.prog X.w (upd H p (.lst (ns.map V.int))) s'.heap p (.lst (ns.map V.int)) := by
    refine ⟨by rw [List.length_map, hl, sizeLine_eq]; omega, out.toList, c, vals_of_ints hi, ?_⟩
    rw [Array.toArray_toList]
    exact hg
  have fr := I.hok.fresh hp
  exact ⟨.ref p, _, I.call' (ch := []) o (Un.laid k hp fr) (I.hok.laid k hp new) (by rw [g]; exact I.bare) (fun _ z => nomatch z), rfl, q ns p hs hm fr⟩
end
section
variable {X : Cx} {W : WX} {a b : Expr} {da db : DE} {pos p p1 p2 p3 p4 p5 : Pos}
def dSrtU (da db : DE) : DE := fun ρ T P X => da ρ T (fun x T1 => optK (lstOf T1 x) fun ds => optK (intsOf ds) fun ns => ns.length ≤ 48 ∧ db ρ T1 (fun y T2 => optK (lstOf T2 y) fun es => optK (intsOf es) fun ms => ms.length ≤ 48 ∧
  ∀ out : List Int, out.Pairwise (· < ·) → (∀ k, k ∈ out ↔ k ∈ ns ∨ k ∈ ms) → P (.lst (out.map .int)) T2) X) X
theorem pd_srtU (hc : X.calm = true) (hg : Gl X "sorted") (hm : X.mg "sorted" = none) (hg2 : Gl X "set") (hm2 : X.mg "set" = none) (ha : PE X a (can X.K W da)) (hb : PE X b (can X.K W db))
    (he : starEach [.BinOp (.Call (.Name "set" p1) [a] [] p2) .BitOr (.Call (.Name "set" p3) [b] [] p4) p5] X.env = (false, eval (.BinOp (.Call (.Name "set" p1) [a] [] p2) .BitOr (.Call (.Name "set" p3) [b] [] p4) p5) X.env) :: starEach [] X.env := by rfl)
    (hea : starEach [a] X.env = (false, eval a X.env) :: starEach [] X.env := by rfl) (heb : starEach [b] X.env = (false, eval b X.env) :: starEach [] X.env := by rfl) :
    PE X (.Call (.Name "sorted" p) [.BinOp (.Call (.Name "set" p1) [a] [] p2) .BitOr (.Call (.Name "set" p3) [b] [] p4) p5] [] pos) (can X.K W (dSrtU da db)) :=
  PE.imp (pe_callB (cr_sortS hc) hg hm (by decide +kernel) (pa_cons (pe_op op_orS (pe_callTy (cr_setL hc) hg2 hm2 PyProof.Rows.boot_set (pa_cons ha pa_nil hea) (by decide) (by decide) hea) (pe_callTy (cr_setL hc) hg2 hm2 PyProof.Rows.boot_set (pa_cons hb pa_nil heb) (by decide) (by decide) heb)) pa_nil he) (by decide) (by decide) he) fun σ H Q ⟨T, G, ρ, P, Xp, c, ok, h, k, kx⟩ => by
    refine can_mk c ok h (fun x T1 v G1 H1 h1 g1 r1 => ?_) kx
    obtain ⟨ds, e1, h1⟩ := optK.of h1
    obtain ⟨ns, e2, hl, h1⟩ := optK.of h1
    obtain ⟨a1, vs, rfl, hs, hr⟩ := lst_rd g1.ctx r1 e1
    have ev := intsOf.of e2 hr
    subst ev
    refine ⟨a1, ns, rfl, hs, hl, fun p6 n hn hp => ?_⟩
    have g2 := g1.ctx.new (o := SRO X.w p6 (fun j => decide (j ∈ ns)) n) hp
    have g12 := g1.trans g2
    refine can_mk g12.ctx (ok.up g12.sub) h1 (fun y T2 u G3 H3 h3 g3 r3 => ?_) (kx.up g12)
    obtain ⟨es, e3, h3⟩ := optK.of h3
    obtain ⟨ms, e4, hl2, h3⟩ := optK.of h3
    obtain ⟨a2, us, rfl, hs2, hr2⟩ := lst_rd g3.ctx r3 e3
    have ev := intsOf.of e4 hr2
    subst ev
    refine ⟨a2, ms, rfl, hs2, hl2, fun p7 n2 hn2 hp7 => ?_⟩
    have in6 : H3 p6 = some (SRO X.w p6 (fun j => decide (j ∈ ns)) n) := g3.ctx.sub _ _ (g3.sub _ _ upd_same)
    have n67 : p6 ≠ p7 := fun z => by rw [z, hp7] at in6; cases in6
    have g4 := g3.ctx.new (o := SRO X.w p7 (fun j => decide (j ∈ ms)) n2) hp7
    refine ⟨p6, p7, _, _, n, n2, rfl, rfl, n67, (upd_ne n67).trans in6, upd_same, by omega, fun p8 n3 hn3 hp8 => ?_⟩
    have g5 := g4.ctx.new (o := SRO X.w p8 (fun j => decide (j ∈ ns) || decide (j ∈ ms)) n3) hp8
    refine ⟨p8, _, n3, rfl, upd_same, by omega, fun out p9 pw mm hp9 => ?_⟩
    have g6 := g5.ctx.new (o := .lst (out.map V.int)) hp9
    exact k _ _ _ _ _ (h3 out pw fun j => by rw [mm, Bool.or_eq_true, decide_eq_true_eq, decide_eq_true_eq]) ((((g12.trans g3).trans g4).trans g5).trans g6) (.lst upd_same (RpA.ints _))
end
end SY

namespace SY
open PySem PySem.Spec PyProof.Rows L2
theorem eqOk_int (i : Int) : eqOk (.int i) = true := rfl
theorem eqv_int (i j : Int) : eqvD (.int i) (.int j) = decide (i = j) := by
  show (i == j) = decide (i = j)
  rfl
theorem ixN_lit (n : Nat) (k : Nat) (h : k < n) : ixN n (k : Int) = some k := by
  unfold ixN
  rw [if_pos (by omega), if_pos (by omega)]
  rfl
theorem atI_lit {α : Type} {l : List α} {x : α} (k : Nat) (h : l[k]? = some x) : atI l (k : Int) = some x := atI_nat h
theorem atI0 {α : Type} (x : α) (l : List α) : atI (x :: l) 0 = some x := atI_lit 0 rfl
theorem atI1 {α : Type} (a x : α) (l : List α) : atI (a :: x :: l) 1 = some x := atI_lit 1 rfl
theorem atI2 {α : Type} (a b x : α) (l : List α) : atI (a :: b :: x :: l) 2 = some x := atI_lit 2 rfl
theorem atI3 {α : Type} (a b c x : α) (l : List α) : atI (a :: b :: c :: x :: l) 3 = some x := atI_lit 3 rfl
theorem atI4 {α : Type} (a b c d x : α) (l : List α) : atI (a :: b :: c :: d :: x :: l) 4 = some x := atI_lit 4 rfl
theorem atI5 {α : Type} (a b c d e x : α) (l : List α) : atI (a :: b :: c :: d :: e :: x :: l) 5 = some x := atI_lit 5 rfl
theorem ixN0 (n : Nat) : ixN (n + 1) 0 = some 0 := ixN_lit (n + 1) 0 (by omega)
theorem seqIx0 (n : Nat) : seqIndex? 0 (n + 1) = some 0 := (ixN_seq (ixN0 n)).1
theorem seqOf_tup {T : Sto} {ds : List D} : seqOf T (.tup ds) = some ds := rfl
theorem seqOf_lst {T : Sto} {ds : List D} : seqOf T (.lst ds) = some ds := rfl
theorem seqOf_scr {T : Sto} {ns : List Int} : seqOf T (.scr ns) = some (ns.map .int) := rfl
theorem seqOf_ptr {T : Sto} {a : Addr} : seqOf T (.ptr a) = mlst (T a) := rfl
theorem seqOf_int {T : Sto} {i : Int} : seqOf T (.int i) = none := rfl
theorem seqOf_str {T : Sto} {i : Str} : seqOf T (.str i) = none := rfl
theorem lstOf_lst {T : Sto} {ds : List D} : lstOf T (.lst ds) = some ds := rfl
theorem lstOf_scr {T : Sto} {ns : List Int} : lstOf T (.scr ns) = some (ns.map .int) := rfl
theorem lstOf_ptr {T : Sto} {a : Addr} : lstOf T (.ptr a) = mlst (T a) := rfl
theorem frozen_tup {ds : List D} : frozen (.tup ds) = some ds := rfl
theorem frozen_lst {ds : List D} : frozen (.lst ds) = some ds := rfl
theorem frozen_scr {ns : List Int} : frozen (.scr ns) = some (ns.map .int) := rfl
theorem frozL_lst {ds : List D} : frozL (.lst ds) = some ds := rfl
theorem frozL_scr {ns : List Int} : frozL (.scr ns) = some (ns.map .int) := rfl
theorem plst_lst {T : Sto} {ds : List D} : plst T (.lst ds) = some ds := rfl
theorem plst_ptr {T : Sto} {a : Addr} : plst T (.ptr a) = mlst (T a) := rfl
theorem mlst_lst {ds : List D} : mlst (some (.lst ds)) = some ds := rfl
end SY

local macro_rules | `(tactic| walk_at "dx") => `(tactic| try simp only [SY.dSeq, SY.dAsg, SY.dRet, SY.dRetN, SY.dNext, SY.dIf, SY.dTst, SY.dC, SY.dVar, SY.dI, SY.dI0, SY.dMul, SY.dDiv, SY.dMod, SY.dPow, SY.dSub, SY.dLt, SY.dLe, SY.dGt, SY.dGe, SY.dNeg, SY.dAdd, SY.dIx, SY.dNil, SY.dCons, SY.dTup, SY.dLst, SY.dLstM, SY.dCall, SY.dAbs, SY.dLen, SY.dTuple, SY.dList, SY.dListM, SY.dEq, SY.dNe, SY.dIsN, SY.dNotN, SY.dIsB, SY.dNotB, SY.dFrz, SY.frzK, SY.dRaise, SY.dTryAs, SY.dTryOnly, SY.dIsE, SY.dtAnd, SY.dtOr, SY.dtNot, SY.dAnd, SY.dOr, SY.dNot, SY.dIsi, SY.dAll, SY.dSum, SY.dInt, SY.dSl, SY.dNoO, SY.dSomeO, SY.dDrop, SY.dAug, SY.dPar, SY.dAsgG, SY.dgName, SY.dgTup, SY.dgsNil, SY.dgsName, SY.dgSub, SY.dApp, SY.dPopAt, SY.dFor, SY.dForR1, SY.dForR2, SY.dForE, SY.dLc, SY.dLcR, SY.forL, SY.lcL, SY.rng1, SY.rng2, SY.rngL, SY.enumL, SY.frozen_tup, SY.frozen_lst, SY.frozen_scr, SY.frozL_lst, SY.frozL_scr, SY.someOf, SY.int1, SY.int2, SY.bl1, SY.one, SY.two, SY.optK, SY.seqK, SY.seqOf_tup, SY.seqOf_lst, SY.seqOf_scr, SY.seqOf_ptr, SY.seqOf_int, SY.seqOf_str, SY.lstOf_lst, SY.lstOf_scr, SY.lstOf_ptr, SY.mlst_lst, SY.plst_lst, SY.plst_ptr, SY.addL, SY.addD, SY.ixD, SY.lenD, SY.slD, SY.setD, SY.appD, SY.popD, SY.isPtrL, SY.nilK, SY.dgsK, SY.tyN, SY.isNon, SY.intK, SY.blsOf, SY.intsOf, SY.dend0, SY.dend, SY.startD, SY.eqOk_int, SY.eqv_int, SY.atI0, SY.atI1, SY.atI2, SY.atI3, SY.atI4, SY.atI5, SY.ixN0, SY.seqIx0, SY.updT_same, SY.updT_updT, List.map_cons, List.map_nil, List.length_cons, List.length_nil, List.replicate, List.cons_append, List.nil_append, List.getD_cons_zero, List.getD_cons_succ, List.set_cons_zero, List.set_cons_succ, List.getElem?_cons_zero, List.eraseIdx_cons_zero, Option.isSome_some, Option.map_some, Int.reduceToNat, Int.reducePow, Int.reduceAdd, Int.reduceMul, Nat.zero_lt_succ, Nat.reduceLT, Nat.sub_self, Nat.reduceSub, Nat.reduceAdd, Nat.reduceLeDiff, Nat.zero_add, SY.kit_ii, SY.kit_ib, SY.kit_it, SY.kit_bi, SY.kit_bb, SY.kit_tt, SY.kit_ti, SY.kit_tb, SY.kit_nt, SY.kit_ll, SY.kit_lt, Bool.not_true, Bool.not_false, if_true, if_false, reduceIte, Bool.false_eq_true, true_and, and_true, and_self])

namespace SY
open PySem PySem.Spec PyProof.Rows L2
/-! ### the greatest common divisor -/
noncomputable def sp_divisor : DSp := lock <| sp2 fun a b T P _ => int2 a b fun i j => P (.int (Int.gcd i j)) T
def d_divisor : DS := (dSeq (dAsg (dAbs (dVar 0)) 0) (dSeq (dAsg (dAbs (dVar 1)) 1) (dSeq (dWhile (dTst (dGt (dVar 1) (dC (.int 0)))) (dPar 0 1 (dCons (dVar 1) (dCons (dMod (dVar 0) (dVar 1)) dNil)))) (dRet (dVar 0)))))
theorem abs_if (i : Int) : (if i < 0 then -i else i) = (i.natAbs : Int) := by split <;> omega
theorem gcd_step {a b : Int} (h0 : 0 ≤ a) (hb : 0 < b) : Int.gcd b (a % b) = Int.gcd a b := by
  obtain ⟨m, rfl⟩ := Int.eq_ofNat_of_zero_le h0
  obtain ⟨n, rfl⟩ := Int.eq_ofNat_of_zero_le (Int.le_of_lt hb)
  rw [← Int.natCast_emod]
  show Nat.gcd n (m % n) = Nat.gcd m n
  rw [Nat.gcd_comm m n, Nat.gcd_rec n m, Nat.gcd_comm]
theorem pure_divisor {N : List Str} (hN : N.length = 2) : ∀ us T P X, sp_divisor us T P X → d_divisor (dend0 P X) (startD N us) T := by
  intro us T P X h
  obtain ⟨a, b, rfl, h1⟩ := sp2.of (lock_of h)
  obtain ⟨i, j, rfl, rfl, h2⟩ := int2.of h1
  have e : startD N [D.int i, D.int j] = [some (.int i), some (.int j)] := by unfold startD; rw [hN]; rfl
  rw [e]
  unfold d_divisor
  walk_at "dx"
  refine ⟨fun m ρ T' => ∃ a b : Int, ρ = [some (.int a), some (.int b)] ∧ 0 ≤ a ∧ 0 ≤ b ∧ Int.gcd a b = Int.gcd i j ∧ m = b.toNat ∧ T' = T, ⟨_, _, _, rfl, by rw [abs_if]; omega, by rw [abs_if]; omega, by rw [abs_if, abs_if]; simp [Int.gcd], rfl, rfl⟩, ?_⟩
  rintro m ρ T' ⟨a, b, rfl, ha, hb, hg, rfl, rfl⟩
  walk_at "dx"
  by_cases hc : 0 < b
  · rw [decide_eq_true hc]
    walk_at "dx"
    have hm := Int.emod_lt_of_pos a hc
    have hn := Int.emod_nonneg a (show b ≠ 0 by omega)
    exact ⟨hc, (a % b).toNat, by omega, _, _, rfl, hb, hn, (gcd_step ha hc).trans hg, rfl⟩
  · rw [decide_eq_false hc]
    walk_at "dx"
    have e : b = 0 := by omega
    subst e
    have e2 : (Int.gcd i j : Int) = a := by
      rw [← hg, Int.gcd_zero_right]
      omega
    rw [← e2]
    exact h2

/-! ### the law's draws -/
noncomputable def sp_l_take : DSp := lock <| sp2 fun a b T P _ => ∃ r, a = .ptr r ∧ T r = some .row ∧ int1 b fun n => (0 < n ∧ n.natAbs.log2 < 9000) ∧ ∀ k, 0 ≤ k → k < n → P (.int k) T
def d_l_take : DS := (dSeq (dWhile (dtAnd (dTst (dGt (dLen (dVar 0)) (dC (.int 0)))) (dTst (dEq (dIx (dVar 0) (dC (.int 0))) (dC (.int 0))))) (dDrop (dPopAt (dVar 0) (dC (.int 0))))) (dSeq (dIf (dTst (dEq (dLen (dVar 0)) (dC (.int 0)))) (dRet (dC (.int 0))) dNext) (dSeq (dAsg (dMod (dIx (dVar 0) (dC (.int 0))) (dVar 1)) 2) (dSeq (dAsgG (dDiv (dIx (dVar 0) (dC (.int 0))) (dVar 1)) (dgSub (dVar 0) (dC (.int 0)))) (dRet (dVar 2))))))
theorem pure_l_take {K : PySem.W.Frag} : ∀ us T P X G H, sp_l_take us T P X → Ctx K T G H → ∃ T', Ctx K T' G H ∧ (∀ a, T a = none ↔ T' a = none) ∧ d_l_take (dend K P X) (startD ["_law_row_here", "_law_many", "_law_found"] us) T' := by
  intro us T P X G H h c
  obtain ⟨a, b, rfl, h1⟩ := sp2.of (lock_of h)
  obtain ⟨r, rfl, hr, h2⟩ := h1
  obtain ⟨n, rfl, hn, h3⟩ := int1.of h2
  obtain ⟨ns, h0, hl, c'⟩ := c.open hr
  refine ⟨_, c', fun a => ?_, ?_⟩
  · by_cases ha : a = r
    · subst ha; rw [updT_same, hr]; simp
    · rw [updT_ne ha]
  have fin : ∀ (k : Int) (ms : List Int), 0 ≤ k → k < n → (∀ m ∈ ms, 0 ≤ m) → ms.length ≤ 63 → ∃ d' T', Wk K (.int k) (updT T r (.lst (ms.map .int))) d' T' ∧ P d' T' := fun k ms k0 kn m0 ml => by
    refine ⟨_, _, Wk.row (p := r) (ns := ms) updT_same m0 ml, ?_⟩
    rw [updT_updT, updT_id hr]
    exact h3 k k0 kn
  unfold d_l_take
  walk_at "dx"
  refine ⟨fun m ρ T' => ∃ ms : List Int, ρ = [some (.ptr r), some (.int n), none] ∧ T' = updT T r (.lst (ms.map .int)) ∧ (∀ m ∈ ms, 0 ≤ m) ∧ ms.length ≤ 63 ∧ m = ms.length, ⟨_, ns, rfl, rfl, h0, hl, rfl⟩, ?_⟩
  rintro m ρ T' ⟨ms, rfl, rfl, m0, ml, rfl⟩
  cases ms with
  | nil =>
    walk_at "dx"
    simp
    exact fin 0 [] (by omega) hn.1 (by simp) (by simp)
  | cons y ms =>
    have ey : 0 ≤ y := m0 y (by simp)
    have mo : ∀ m ∈ ms, 0 ≤ m := fun z hz => m0 z (by simp [hz])
    simp only [List.length_cons] at ml
    walk_at "dx"
    have hp : decide ((0 : Int) < ((List.length (List.map D.int ms) + 1 : Nat) : Int)) = true := decide_eq_true (by omega)
    have hq : decide (((List.length (List.map D.int ms) + 1 : Nat) : Int) = 0) = false := decide_eq_false (by omega)
    simp only [hp, hq]
    by_cases hy : y = 0
    · rw [decide_eq_true hy]
      walk_at "dx"
      exact ⟨⟨by decide, by decide⟩, _, by omega, ms, rfl, mo, by omega, rfl⟩
    · rw [decide_eq_false hy]
      walk_at "dx"
      refine ⟨hn.1, hn, ?_⟩
      exact fin (y % n) ((y / n) :: ms) (Int.emod_nonneg _ (by omega)) (Int.emod_lt_of_pos _ hn.1) (fun z hz => by
        rcases List.mem_cons.mp hz with rfl | hz
        · exact Int.ediv_nonneg ey (by omega)
        · exact mo z hz) (by simp; omega)

/-- the row: from the script's cells -/
noncomputable def sp_l_row : DSp := lock <| sp1 fun a T P _ => ∃ ns : List Int, a = .scr ns ∧ ∀ p, T p = none → P (.ptr p) (updT T p .row)
def b_l_row : DS := (dIf (dTst (dGe (dVar 3) (dPow (dC (.int 10)) (dC (.int 18))))) (dDrop (dApp (dVar 1) (dSub (dVar 3) (dPow (dC (.int 10)) (dC (.int 18)))))) (dSeq (dAsg (dMod (dMul (dAdd (dAdd (dAdd (dVar 3) (dMul (dMul (dC (.int 7)) (dVar 2)) (dVar 2))) (dMul (dC (.int 13)) (dVar 2))) (dC (.int 5))) (dC (.int 48271))) (dC (.int 2147483647))) 4) (dSeq (dAsg (dMod (dMul (dAdd (dAdd (dAdd (dVar 3) (dMul (dMul (dC (.int 11)) (dVar 2)) (dVar 2))) (dMul (dC (.int 17)) (dVar 2))) (dC (.int 3))) (dC (.int 40692))) (dC (.int 2147483399))) 5) (dSeq (dAsg (dMod (dMul (dAdd (dAdd (dAdd (dVar 3) (dMul (dMul (dC (.int 5)) (dVar 2)) (dVar 2))) (dMul (dC (.int 29)) (dVar 2))) (dC (.int 8))) (dC (.int 39373))) (dC (.int 2147483587))) 6) (dSeq (dAsg (dMod (dMul (dVar 4) (dC (.int 69621))) (dC (.int 1000000007))) 4) (dSeq (dAsg (dMod (dMul (dVar 5) (dC (.int 16807))) (dC (.int 998244353))) 5) (dSeq (dAsg (dMod (dMul (dVar 6) (dC (.int 45991))) (dC (.int 1000000009))) 6) (dDrop (dApp (dVar 1) (dAdd (dMul (dAdd (dMul (dVar 4) (dC (.int 998244353))) (dVar 5)) (dC (.int 1000000009))) (dVar 6)))))))))))
def d_l_row : DS := (dSeq (dAsg (dLstM dNil) 1) (dSeq (dForE (dgTup 2 (dgsName 2 (dgsName 3 dgsNil))) (dCons (dSl (dVar 0) dNoO (dSomeO (dC (.int 63)))) dNil) b_l_row) (dRet (dVar 1))))
theorem mulOk_r {i j : Int} (h : -(2 ^ 64) < j ∧ j < 2 ^ 64) : MulOk i j := ⟨CMul.ok (.inr h)⟩
theorem mulOk_l {i j : Int} (h : -(2 ^ 64) < i ∧ i < 2 ^ 64) : MulOk i j := ⟨CMul.ok (.inl h)⟩
theorem cut63 (ns : List Int) : cutD (ns.map D.int) none (some 63) = (ns.take 63).map D.int := by
  unfold cutD
  rw [HT.sIx_none, show HT.sIx (ns.map D.int).length (ns.map D.int).length (some 63) = min 63 (ns.map D.int).length from HT.sIx_nat _ _ 63]
  rw [List.drop_zero, Nat.sub_zero, List.map_take]
  by_cases h : (ns.map D.int).length ≤ 63
  · rw [Nat.min_eq_right h, List.take_length, List.take_of_length_le h]
  · rw [Nat.min_eq_left (by omega)]
theorem row_loop {E : DX} {T : Sto} {p : Addr} {s : D} (fin : ∀ (ms : List Int) (ρ : Env), (∀ m ∈ ms, 0 ≤ m) → ms.length ≤ 63 → (∃ a b c d e, ρ = [some s, some (.ptr p), a, b, c, d, e]) → E.nx ρ (updT T p (.lst (ms.map .int)))) :
    ∀ (ls : List Int) (k : Int) (ms : List Int) (ρ : Env), 0 ≤ k → k + ls.length ≤ 63 → (∀ m ∈ ms, 0 ≤ m) → ms.length + ls.length ≤ 63 → (∃ a b c d e, ρ = [some s, some (.ptr p), a, b, c, d, e]) →
      forL (dgTup 2 (dgsName 2 (dgsName 3 dgsNil))) b_l_row E (enumL k (ls.map .int)) ρ (updT T p (.lst (ms.map .int)))
  | [], k, ms, ρ, k0, k1, m0, ml, hρ => fin ms ρ m0 (by simpa using ml) hρ
  | n :: ls, k, ms, ρ, k0, k1, m0, ml, hρ => by
    obtain ⟨a, b, c, d, e, rfl⟩ := hρ
    simp only [List.length_cons] at k1 ml
    have goon := fun (z : Int) (hz : 0 ≤ z) (ρ' : Env) (hρ' : ∃ a b c d e, ρ' = [some s, some (.ptr p), a, b, c, d, e]) => row_loop fin ls (k + 1) (ms ++ [z]) ρ' (by omega) (by omega) (fun m hm => by
      rcases List.mem_append.mp hm with hm | hm
      · exact m0 m hm
      · have e : m = z := by simpa using hm
        rw [e]; exact hz) (by simp; omega) hρ'
    show dgTup 2 (dgsName 2 (dgsName 3 dgsNil)) (.tup [.int k, .int n]) _ _ _ _
    generalize hq : forL (dgTup 2 (dgsName 2 (dgsName 3 dgsNil))) b_l_row E (enumL (k + 1) (ls.map .int)) = nxt
    rw [hq] at goon
    unfold b_l_row
    walk_at "dx"
    simp only [List.map_append, List.map_cons, List.map_nil] at goon
    have kk : MulOk (7 * k) k ∧ MulOk (11 * k) k ∧ MulOk (5 * k) k := ⟨mulOk_r (by omega), mulOk_r (by omega), mulOk_r (by omega)⟩
    refine ⟨⟨by decide, by decide, by decide⟩, ?_⟩
    by_cases hc : (1000000000000000000 : Int) ≤ n
    · rw [decide_eq_true hc]
      walk_at "dx"
      exact ⟨⟨by decide, by decide, by decide⟩, by simp; omega, goon _ (by omega) _ ⟨_, _, _, _, _, rfl⟩⟩
    · rw [decide_eq_false hc]
      walk_at "dx"
      have m1 := Int.emod_nonneg ((n + 7 * k * k + 13 * k + 5) * 48271 % 2147483647 * 69621) (show (1000000007 : Int) ≠ 0 by decide)
      have m2 := Int.emod_nonneg ((n + 11 * k * k + 17 * k + 3) * 40692 % 2147483399 * 16807) (show (998244353 : Int) ≠ 0 by decide)
      have m3 := Int.emod_nonneg ((n + 5 * k * k + 29 * k + 8) * 39373 % 2147483587 * 45991) (show (1000000009 : Int) ≠ 0 by decide)
      refine ⟨mulOk_l (by decide), kk.1, mulOk_l (by decide), mulOk_r (by decide), by decide, mulOk_l (by decide), kk.2.1, mulOk_l (by decide), mulOk_r (by decide), by decide, mulOk_l (by decide), kk.2.2, mulOk_l (by decide), mulOk_r (by decide), by decide, mulOk_r (by decide), by decide, mulOk_r (by decide), by decide, mulOk_r (by decide), by decide, mulOk_r (by decide), mulOk_r (by decide), by simp; omega, goon _ (by omega) _ ⟨_, _, _, _, _, rfl⟩⟩
theorem pure_l_row {K : PySem.W.Frag} {N : List Str} (hN : N.length = 7) : ∀ us T P X, sp_l_row us T P X → d_l_row (dend K P X) (startD N us) T := by
  intro us T P X h
  obtain ⟨a, rfl, h1⟩ := sp1.of (lock_of h)
  obtain ⟨ns, rfl, h2⟩ := h1
  unfold d_l_row
  have e : startD N [D.scr ns] = [some (.scr ns), none, none, none, none, none, none] := by
    unfold startD; rw [hN]; rfl
  rw [e]
  generalize hb : b_l_row = bb
  walk_at "dx"
  intro p hp
  subst hb
  rw [cut63]
  refine row_loop (s := .scr ns) (p := p) (T := T) (fun ms ρ m0 ml hρ => ?_) (ns.take 63) 0 [] _ (by omega) ?_ (by simp) ?_ ⟨_, _, _, _, _, rfl⟩
  · obtain ⟨a, b, c, d, e, rfl⟩ := hρ
    walk_at "dx"
    refine ⟨_, _, Wk.row (p := p) (ns := ms) updT_same m0 ml, ?_⟩
    rw [updT_updT]
    exact h2 p hp
  · rw [List.length_take]; omega
  · rw [List.length_take]; simp; omega
end SY

namespace SY
open PySem PySem.Spec PyProof.Rows L2
/-- numbers by their size -/
def Bd (n : Nat) (x : Int) : Prop := x.natAbs < 2 ^ n
theorem Bd.mono {m n : Nat} {x : Int} (h : Bd m x) (l : m ≤ n) : Bd n x := Nat.lt_of_lt_of_le h (Nat.pow_le_pow_right (by decide) l)
theorem Bd.mul {m n : Nat} {x y : Int} (hx : Bd m x) (hy : Bd n y) : Bd (m + n) (x * y) := wide_lt hx hy
theorem Bd.neg {m : Nat} {x : Int} (hx : Bd m x) : Bd m (-x) := by unfold Bd; rw [Int.natAbs_neg]; exact hx
theorem Bd.add {m n : Nat} {x y : Int} (hx : Bd m x) (hy : Bd n y) : Bd (max m n + 1) (x + y) := by
  have h1 := hx.mono (Nat.le_max_left m n)
  have h2 := hy.mono (Nat.le_max_right m n)
  unfold Bd at *
  rw [Nat.pow_succ]
  have := Int.natAbs_add_le x y
  omega
theorem Bd.sub {m n : Nat} {x y : Int} (hx : Bd m x) (hy : Bd n y) : Bd (max m n + 1) (x - y) := by
  rw [Int.sub_eq_add_neg]
  exact hx.add hy.neg
theorem Bd.mulOk {m n : Nat} {x y : Int} (hx : Bd m x) (hy : Bd n y) (h : m + n ≤ 900000) : MulOk x y := by
  have hx1 := hx.mono (Nat.le_succ m)
  have hy1 := hy.mono (Nat.le_succ n)
  exact ⟨(wide_mul hx1 hy1 (Nat.succ_pos _) (Nat.succ_pos _) (by omega)).ok⟩
theorem Bd.divOk {n : Nat} {x y : Int} (hy : Bd n y) (h : n ≤ 8000) (h0 : 0 < y) : CDivW x y := wide_div h0 (hy.mono (Nat.le_succ n)) (Nat.succ_pos _) (by omega)
theorem Bd.ediv {m : Nat} {x y : Int} (hx : Bd m x) : Bd m (x / y) := by
  unfold Bd at *
  exact Nat.lt_of_le_of_lt (Int.natAbs_ediv_le_natAbs x y) hx
theorem Bd.gcd {m : Nat} {x y : Int} (hx : Bd m x) (hy : Bd m y) : Bd m ((Int.gcd x y : Nat) : Int) := by
  unfold Bd at *
  rw [Int.natAbs_natCast]
  by_cases h : y = 0
  · subst h
    rw [Int.gcd_zero_right]
    exact hx
  · have h1 : (Int.gcd x y) ∣ y.natAbs := by
      rw [Int.gcd]
      exact Nat.gcd_dvd_right _ _
    exact Nat.lt_of_le_of_lt (Nat.le_of_dvd (Int.natAbs_pos.mpr h) h1) hy
theorem Bd.lit {n : Nat} {x : Int} (h : x.natAbs < 2 ^ n) : Bd n x := h
theorem Bd.small {x : Int} (h : x.natAbs < 2 ^ 64) : Bd 64 x := h
theorem Bd.to {m n : Nat} {x : Int} (h : Bd m x) (l : Nat.ble m n = true) : Bd n x := h.mono (Nat.le_of_ble_eq_true l)
theorem Bd.rng {n : Nat} {x m : Int} (h0 : -m ≤ x) (h1 : x ≤ m) (h : Bd n m) : Bd n x := by
  unfold Bd at *
  omega
theorem log_ok {n : Nat} {x : Int} (h : Bd n x) (l : n ≤ 8000) : x.natAbs.log2 < 9000 := Nat.lt_of_lt_of_le (PySem.Flt.log2_lt_of (Nat.succ_pos n) (h.mono (Nat.le_succ n))) (by omega)
theorem lt3 {k : Int} (h0 : 0 ≤ k) (h : k < 3) : k = 0 ∨ k = 1 ∨ k = 2 := by omega
theorem lt4 {k : Int} (h0 : 0 ≤ k) (h : k < 4) : k = 0 ∨ k = 1 ∨ k = 2 ∨ k = 3 := by omega
/-- the law's own small helpers -/
noncomputable def sp_l_number : DSp := lock <| sp1 fun a T P _ => ∃ r, a = .ptr r ∧ T r = some .row ∧ ∀ k : Int, Bd 200 k → P (.int k) T
def d_l_number : DS := (dSeq (dAsg (dIx (dLst (dCons (dC (.int 12)) (dCons (dPow (dC (.int 10)) (dC (.int 6))) (dCons (dPow (dC (.int 10)) (dC (.int 20))) (dCons (dPow (dC (.int 10)) (dC (.int 60))) dNil))))) (dCall sp_l_take (dCons (dVar 0) (dCons (dC (.int 4)) dNil)))) 1) (dRet (dSub (dCall sp_l_take (dCons (dVar 0) (dCons (dAdd (dMul (dC (.int 2)) (dVar 1)) (dC (.int 1))) dNil))) (dVar 1))))
theorem sp_take_mk {r : Addr} {n : Int} {T : Sto} {P : D → Sto → Prop} {X : Xc → Sto → Prop} (hr : T r = some .row) (h0 : 0 < n) (hb : Bd 8000 n) (h : ∀ k, 0 ≤ k → k < n → P (.int k) T) : sp_l_take [.ptr r, .int n] T P X := lock_at ⟨r, rfl, hr, ⟨h0, log_ok hb (Nat.le_refl _)⟩, h⟩
noncomputable def sp_l_whole : DSp := lock <| sp1 fun a T P _ => int1 a fun _ => P (.bl true) T
def d_l_whole : DS := (dRet (dAnd (dIsi "int" (dVar 0)) (dNot (dIsi "bool" (dVar 0)))))
theorem pure_l_whole {N : List Str} (hN : N.length = 1) : ∀ us T P X, sp_l_whole us T P X → d_l_whole (dend0 P X) (startD N us) T := by
  intro us T P X h
  obtain ⟨a, rfl, h1⟩ := sp1.of (lock_of h)
  obtain ⟨i, rfl, h2⟩ := int1.of h1
  have e : startD N [D.int i] = [some (.int i)] := by unfold startD; rw [hN]; rfl
  rw [e]
  unfold d_l_whole
  walk_at "dx"
  exact h2
end SY

local macro_rules | `(tactic| walk_at "bd") => `(tactic| first | assumption | (apply SY.Bd.mul <;> walk_at "bd") | (apply SY.Bd.add <;> walk_at "bd") | (apply SY.Bd.sub <;> walk_at "bd") | (apply SY.Bd.neg <;> walk_at "bd") | exact SY.Bd.small (by decide))
local macro_rules | `(tactic| walk_at "bt") => `(tactic| exact SY.Bd.to (by walk_at "bd") (by decide))
local macro_rules | `(tactic| walk_at "mo") => `(tactic| exact SY.Bd.mulOk (by walk_at "bd") (by walk_at "bd") (by decide))
local macro_rules | `(tactic| walk_at "mos") => `(tactic| repeat (refine ⟨by walk_at "mo", ?_⟩))

namespace SY
open PySem PySem.Spec PyProof.Rows L2
theorem sp_divisor_eq {i j : Int} {T : Sto} {P : D → Sto → Prop} {X : Xc → Sto → Prop} : sp_divisor [.int i, .int j] T P X = P (.int (Int.gcd i j)) T := by unfold sp_divisor; rw [lock_eq]; rfl
theorem sp_l_whole_eq {i : Int} {T : Sto} {P : D → Sto → Prop} {X : Xc → Sto → Prop} : sp_l_whole [.int i] T P X = P (.bl true) T := by unfold sp_l_whole; rw [lock_eq]; rfl
theorem sp_row_mk {ns : List Int} {T : Sto} {P : D → Sto → Prop} {X : Xc → Sto → Prop} (h : ∀ p, T p = none → P (.ptr p) (updT T p .row)) : sp_l_row [.scr ns] T P X := lock_at ⟨ns, rfl, h⟩
/-- one of a written list -/
theorem pick {ds : List D} {k : Int} {C R : D → Prop} (h0 : 0 ≤ k) (h1 : k < ds.length) (hall : ∀ d ∈ ds, R d) (hc : ∀ d, R d → C d) : someOf (atI ds k) C := by
  obtain ⟨j, rfl⟩ := Int.eq_ofNat_of_zero_le h0
  have hj : j < ds.length := by omega
  have e : atI ds (j : Int) = some ds[j] := atI_nat (List.getElem?_eq_getElem hj)
  rw [e]
  exact hc _ (hall _ (List.getElem_mem hj))
def IsB (n : Nat) (d : D) : Prop := ∃ i, d = .int i ∧ Bd n i
end SY

namespace SY
open PySem PySem.Spec PyProof.Rows L2
/-! ### numbers without a common divisor -/
def gcdF (g : Nat) : List Int → Nat
  | [] => g
  | n :: ns => gcdF (Int.gcd (g : Int) n) ns
def gcdL (ns : List Int) : Nat := gcdF 0 ns
theorem gcdF_dvd : ∀ (ns : List Int) (g : Nat), (gcdF g ns ∣ g) ∧ ∀ n ∈ ns, ((gcdF g ns : Nat) : Int) ∣ n
  | [], g => ⟨Nat.dvd_refl _, fun n h => by simp at h⟩
  | m :: ns, g => by
    obtain ⟨h1, h2⟩ := gcdF_dvd ns (Int.gcd (g : Int) m)
    have d1 : ((Int.gcd (g : Int) m : Nat) : Int) ∣ (g : Int) := Int.gcd_dvd_left ..
    have d2 : ((Int.gcd (g : Int) m : Nat) : Int) ∣ m := Int.gcd_dvd_right ..
    refine ⟨Nat.dvd_trans h1 (Int.natCast_dvd_natCast.mp d1), fun n hn => ?_⟩
    rcases List.mem_cons.mp hn with rfl | hn
    · exact Int.dvd_trans (Int.natCast_dvd_natCast.mpr h1) d2
    · exact h2 n hn
theorem dvd_gcdF : ∀ (ns : List Int) (g d : Nat), d ∣ g → (∀ n ∈ ns, (d : Int) ∣ n) → d ∣ gcdF g ns
  | [], g, d, h, _ => h
  | m :: ns, g, d, h, hn => dvd_gcdF ns _ d (Int.dvd_gcd (Int.natCast_dvd_natCast.mpr h) (hn m (by simp)) |> fun z => by exact_mod_cast z) fun n h2 => hn n (by simp [h2])
theorem gcdL_dvd {ns : List Int} {n : Int} (h : n ∈ ns) : ((gcdL ns : Nat) : Int) ∣ n := (gcdF_dvd ns 0).2 n h
theorem dvd_gcdL {ns : List Int} {d : Nat} (h : ∀ n ∈ ns, (d : Int) ∣ n) : d ∣ gcdL ns := dvd_gcdF ns 0 d (Nat.dvd_zero d) h
theorem gcdL_zero {ns : List Int} (h : gcdL ns = 0) {n : Int} (hn : n ∈ ns) : n = 0 := by
  have := gcdL_dvd hn
  rw [h] at this
  exact Int.zero_dvd.mp this
theorem gcdL_pos {ns : List Int} {n : Int} (hn : n ∈ ns) (h : n ≠ 0) : 0 < gcdL ns := by
  rcases Nat.eq_zero_or_pos (gcdL ns) with z | z
  · exact absurd (gcdL_zero z hn) h
  · exact z
theorem gcdL_smul (c : Int) (ns : List Int) : gcdL (ns.map (c * ·)) = c.natAbs * gcdL ns := by
  apply Nat.dvd_antisymm
  · by_cases hc : c = 0
    · subst hc
      have : gcdL (ns.map ((0 : Int) * ·)) = 0 := by
        have h0 : (0 : Nat) ∣ gcdL (ns.map ((0 : Int) * ·)) := dvd_gcdL fun n hn => by
          obtain ⟨m, _, rfl⟩ := List.mem_map.mp hn
          simp
        exact Nat.eq_zero_of_zero_dvd h0
      rw [this]
      simp
    · have hc' : 0 < c.natAbs := Int.natAbs_pos.mpr hc
      have d1 : c.natAbs ∣ gcdL (ns.map (c * ·)) := dvd_gcdL fun n hn => by
        obtain ⟨m, _, rfl⟩ := List.mem_map.mp hn
        exact Int.dvd_trans (Int.natAbs_dvd.mpr (Int.dvd_refl c)) (Int.dvd_mul_right c m)
      obtain ⟨q, hq⟩ := d1
      rw [hq]
      refine Nat.mul_dvd_mul_left _ (dvd_gcdL fun n hn => ?_)
      have h := gcdL_dvd (ns := ns.map (c * ·)) (List.mem_map.mpr ⟨n, hn, rfl⟩)
      rw [hq] at h
      obtain ⟨k, hk⟩ := h
      refine ⟨if 0 < c then k else -k, ?_⟩
      have e : ((c.natAbs * q : Nat) : Int) = (c.natAbs : Int) * q := by simp
      rw [e] at hk
      by_cases h0 : 0 < c
      · rw [if_pos h0]
        have e2 : (c.natAbs : Int) = c := by omega
        rw [e2] at hk
        exact Int.eq_of_mul_eq_mul_left hc (by rw [hk]; grind)
      · rw [if_neg h0]
        have e2 : (c.natAbs : Int) = -c := by omega
        rw [e2] at hk
        exact Int.eq_of_mul_eq_mul_left hc (by rw [hk]; grind)
  · refine dvd_gcdL fun n hn => ?_
    obtain ⟨m, hm, rfl⟩ := List.mem_map.mp hn
    have h := gcdL_dvd hm
    obtain ⟨k, hk⟩ := h
    rw [hk]
    have e : ((c.natAbs * gcdL ns : Nat) : Int) = (c.natAbs : Int) * (gcdL ns : Int) := by simp
    rw [e]
    have d : (c.natAbs : Int) ∣ c := Int.natAbs_dvd.mpr (Int.dvd_refl c)
    obtain ⟨j, hj⟩ := d
    exact ⟨j * k, by rw [show c * ((gcdL ns : Int) * k) = ((c.natAbs : Int) * j) * ((gcdL ns : Int) * k) by rw [← hj]]; grind⟩
def lowBy (ns : List Int) : Nat := if gcdL ns = 0 then 1 else gcdL ns
def lowZ (ns : List Int) : List Int := ns.map fun n => n / (lowBy ns : Int)
theorem lowBy_pos (ns : List Int) : 0 < lowBy ns := by unfold lowBy; split <;> omega
theorem lowBy_dvd {ns : List Int} {n : Int} (h : n ∈ ns) : (lowBy ns : Int) ∣ n := by
  unfold lowBy
  split
  · exact Int.one_dvd n
  · exact gcdL_dvd h
theorem lowZ_mul (ns : List Int) : (lowZ ns).map ((lowBy ns : Int) * ·) = ns := by
  unfold lowZ
  rw [List.map_map]
  conv => rhs; rw [← List.map_id ns]
  refine List.map_congr_left fun n hn => ?_
  exact Int.mul_ediv_cancel' (lowBy_dvd hn)
theorem lowZ_gcd {ns : List Int} {n : Int} (hn : n ∈ ns) (h : n ≠ 0) : gcdL (lowZ ns) = 1 := by
  have e := gcdL_smul (lowBy ns) (lowZ ns)
  rw [lowZ_mul, Int.natAbs_natCast] at e
  have p := gcdL_pos hn h
  have e2 : lowBy ns = gcdL ns := by unfold lowBy; rw [if_neg (by omega)]
  rw [e2] at e
  exact Nat.eq_of_mul_eq_mul_left p (by omega)
theorem map_inj {s : Int} (h : s ≠ 0) : ∀ {a b : List Int}, a.map (s * ·) = b.map (s * ·) → a = b
  | [], [], _ => rfl
  | [], _ :: _, e => by simp at e
  | _ :: _, [], e => by simp at e
  | x :: a, y :: b, e => by
    simp only [List.map_cons, List.cons.injEq] at e
    rw [Int.eq_of_mul_eq_mul_left h e.1, map_inj h e.2]
theorem low_unique {a b : List Int} {s t : Int} (ha : gcdL a = 1) (hb : gcdL b = 1) (hs : 0 < s) (ht : 0 < t) (h : a.map (s * ·) = b.map (t * ·)) : a = b := by
  have e1 := gcdL_smul s a
  have e2 := gcdL_smul t b
  rw [h, e2, ha, hb] at e1
  have e : s = t := by omega
  subst e
  exact map_inj (by omega) h
theorem lowZ_bd {ns : List Int} {n : Nat} (h : ∀ z ∈ ns, Bd n z) : ∀ z ∈ lowZ ns, Bd n z := fun z hz => by
  obtain ⟨m, hm, rfl⟩ := List.mem_map.mp hz
  exact (h m hm).ediv
theorem gcdF_bd : ∀ (ns : List Int) (g : Nat) {n : Nat}, Bd n (g : Int) → (∀ z ∈ ns, Bd n z) → Bd n ((gcdF g ns : Nat) : Int)
  | [], g, n, h, _ => h
  | m :: ns, g, n, h, hn => gcdF_bd ns _ (Bd.gcd h (hn m (by simp))) fun z hz => hn z (by simp [hz])
theorem gcdL_bd {ns : List Int} {n : Nat} (h : ∀ z ∈ ns, Bd n z) : Bd n ((gcdL ns : Nat) : Int) := gcdF_bd ns 0 (by unfold Bd; exact Nat.pow_pos (by decide)) h
end SY

namespace SY
open PySem PySem.Spec PyProof.Rows L2
theorem lcL_map {j : Nat} {de : DE} {ρ0 : Env} {k : List D → Sto → Prop} {T : Sto} {f : D → D} : ∀ (ds acc : List D), (∀ d ∈ ds, ∀ (P : D → Sto → Prop) (X : Xc → Sto → Prop), P (f d) T → de (ρ0.set j (some d)) T P X) → k (acc ++ ds.map f) T → lcL j de ρ0 k ds acc T
  | [], acc, _, h => by
    show k acc T
    simpa using h
  | d :: ds, acc, hd, h => hd d (by simp) _ _ (lcL_map ds (acc ++ [f d]) (fun e he => hd e (by simp [he])) (by simpa using h))
theorem seqOf_frozen {a : D} {ds : List D} {T : Sto} (h : frozen a = some ds) : seqOf T a = some ds := by
  cases a <;> first | exact h | cases h
noncomputable def sp_l_lowest : DSp := lock <| sp1 fun a T P _ => ∃ ns : List Int, frozen a = some (ns.map .int) ∧ (∀ n ∈ ns, Bd 8000 n) ∧ ns.length ≤ 1000 ∧ P (.tup ((lowZ ns).map .int)) T
def d_l_lowest : DS := (dSeq (dAsg (dC (.int 0)) 1) (dSeq (dFor (dgName 2) (dVar 0) (dAsg (dCall sp_divisor (dCons (dVar 1) (dCons (dVar 2) dNil))) 1)) (dSeq (dIf (dTst (dEq (dVar 1) (dC (.int 0)))) (dRet (dTuple (dVar 0))) dNext) (dRet (dTuple (dLc 2 (dVar 0) (dDiv (dVar 2) (dVar 1))))))))
theorem low_loop {E : DX} {T : Sto} {a : Option D} : ∀ (ns : List Int) (g : Nat) (x : Option D), (∀ x', E.nx [a, some (.int (gcdF g ns)), x'] T) → forL (dgName 2) (dAsg (dCall sp_divisor (dCons (dVar 1) (dCons (dVar 2) dNil))) 1) E (ns.map .int) [a, some (.int g), x] T
  | [], g, x, h => h x
  | n :: ns, g, x, h => by
    show dgName 2 (.int n) _ _ _ _
    walk_at "dx"
    rw [sp_divisor_eq]
    exact low_loop ns _ _ h
theorem low_div {ns : List Int} {T : Sto} {P : D → Sto → Prop} {X : Xc → Sto → Prop} {a : D} {g : Int} (hf : frozen a = some (ns.map .int)) (hl : ns.length ≤ 1000) (hg : CDivW 0 g) (h : P (.tup (ns.map fun n => .int (n / g))) T) : ∀ x, (dTuple (dLc 2 (dVar 0) (dDiv (dVar 2) (dVar 1)))) [some a, some (.int g), x] T P X := by
  intro x
  simp only [dTuple, dLc, dVar, List.getD_cons_zero, someOf, hf, optK]
  refine ⟨by simp; omega, ?_⟩
  refine lcL_map (f := fun d => match d with | .int n => .int (n / g) | e => e) (ns.map .int) [] (fun d hd P X hp => ?_) ?_
  · obtain ⟨n, _, rfl⟩ := List.mem_map.mp hd
    walk_at "dx"
    exact ⟨hg, hp⟩
  · simp only [List.nil_append, List.map_map, seqK, seqOf]
    exact h
theorem pure_l_lowest {N : List Str} (hN : N.length = 3) : ∀ us T P X, sp_l_lowest us T P X → d_l_lowest (dend0 P X) (startD N us) T := by
  intro us T P X h
  obtain ⟨a, rfl, h1⟩ := sp1.of (lock_of h)
  obtain ⟨ns, hf, hb, hl, h2⟩ := h1
  have e : startD N [a] = [some a, none, none] := by unfold startD; rw [hN]; rfl
  rw [e]
  unfold d_l_lowest
  simp only [dSeq, dAsg, dC, dFor, dVar, List.set_cons_succ, List.set_cons_zero, List.getD_cons_zero, someOf, hf, optK]
  refine low_loop ns 0 none fun x => ?_
  have gb : Bd 8000 ((gcdF 0 ns : Nat) : Int) := gcdL_bd hb
  by_cases hz : gcdF 0 ns = 0
  · have e1 : ((gcdF 0 ns : Nat) : Int) = 0 := by omega
    simp only [dIf, dTst, dEq, dC, dVar, List.getD_cons_succ, List.getD_cons_zero, someOf, e1, eqOk_int, eqv_int, dRet, dTuple, seqK, seqOf_frozen hf, bl1, dend0]
    simp
    have e2 : lowZ ns = ns := by
      unfold lowZ lowBy
      rw [if_pos (show gcdL ns = 0 from hz)]
      simp
    rw [e2] at h2
    exact h2
  · have e1 : decide (((gcdF 0 ns : Nat) : Int) = 0) = false := decide_eq_false (by omega)
    simp only [dIf, dTst, dEq, dC, dVar, List.getD_cons_succ, List.getD_cons_zero, someOf, eqOk_int, eqv_int, e1, bl1, dNext]
    refine ⟨⟨trivial, trivial⟩, ?_⟩
    rw [if_neg Bool.false_ne_true]
    refine low_div hf hl (Bd.divOk gb (by decide) (by omega)) ?_ x
    have e2 : lowBy ns = gcdF 0 ns := by unfold lowBy; rw [if_neg (show ¬ gcdL ns = 0 from hz)]; rfl
    have e3 : (lowZ ns).map D.int = ns.map fun n => D.int (n / ((gcdF 0 ns : Nat) : Int)) := by
      unfold lowZ
      rw [e2, List.map_map]
      rfl
    rw [e3] at h2
    exact h2
/-- the program's own -/
noncomputable def sp_lowest : DSp := lock <| sp1 fun a T P _ => ∃ ns : List Int, frozen a = some (ns.map .int) ∧ (∀ n ∈ ns, Bd 8000 n) ∧ ns.length ≤ 1000 ∧ P (.tup ((lowZ ns).map .int)) T
def d_lowest : DS := (dSeq (dAsg (dC (.int 0)) 1) (dSeq (dFor (dgName 2) (dVar 0) (dSeq (dAsg (dCall sp_divisor (dCons (dVar 1) (dCons (dVar 2) dNil))) 1) (dIf (dTst (dEq (dVar 1) (dC (.int 1)))) (dRet (dTuple (dVar 0))) dNext))) (dSeq (dIf (dTst (dEq (dVar 1) (dC (.int 0)))) (dRet (dTuple (dVar 0))) dNext) (dRet (dTuple (dLc 2 (dVar 0) (dDiv (dVar 2) (dVar 1))))))))
theorem sp_l_lowest_mk {a : D} {ns : List Int} {T : Sto} {P : D → Sto → Prop} {X : Xc → Sto → Prop} (hf : frozen a = some (ns.map .int)) (hb : ∀ n ∈ ns, Bd 8000 n) (hl : ns.length ≤ 1000) (h : P (.tup ((lowZ ns).map .int)) T) : sp_l_lowest [a] T P X := lock_at ⟨ns, hf, hb, hl, h⟩
end SY

namespace SY
open PySem PySem.Spec PyProof.Rows L2
/-! ### equal tuples of numbers -/
theorem eqvAll_ints : ∀ ns ms : List Int, PyData.eqvAll (pys (ns.map .int)) (pys (ms.map .int)) = decide (ns = ms)
  | [], [] => rfl
  | [], _ :: _ => rfl
  | _ :: _, [] => rfl
  | n :: ns, m :: ms => by
    show ((n == m) && PyData.eqvAll (pys (ns.map .int)) (pys (ms.map .int))) = _
    rw [eqvAll_ints ns ms]
    by_cases h : n = m
    · subst h
      simp
    · have h2 : (n == m) = false := by simpa using h
      rw [h2]
      simp [h]
theorem eqv_tup (ns ms : List Int) : eqvD (.tup (ns.map .int)) (.tup (ms.map .int)) = decide (ns = ms) := eqvAll_ints ns ms
theorem eqv_t4 (a b c d x y z w : Int) : eqvD (.tup [.int a, .int b, .int c, .int d]) (.tup [.int x, .int y, .int z, .int w]) = decide ([a, b, c, d] = [x, y, z, w]) := eqv_tup [a, b, c, d] [x, y, z, w]
theorem eqv_bl (a b : Bool) : eqvD (.bl a) (.bl b) = (a == b) := rfl
theorem eqOk_bl (a : Bool) : eqOk (.bl a) = true := rfl
theorem eqOk_t4 (a b c d : Int) : eqOk (.tup [.int a, .int b, .int c, .int d]) = true := rfl
/-! ### fractions, ways, turns -/
def V2 (T : Sto) (a : D) (u0 u1 : Int) : Prop := ∃ r, seqOf T a = some (.int u0 :: .int u1 :: r)
def V3 (T : Sto) (a : D) (u0 u1 u2 : Int) : Prop := ∃ r, seqOf T a = some (.int u0 :: .int u1 :: .int u2 :: r)
def V4 (T : Sto) (a : D) (u0 u1 u2 u3 : Int) : Prop := ∃ r, seqOf T a = some (.int u0 :: .int u1 :: .int u2 :: .int u3 :: r)
theorem V4.v3 {T : Sto} {a : D} {u0 u1 u2 u3 : Int} (h : V4 T a u0 u1 u2 u3) : V3 T a u0 u1 u2 := by obtain ⟨r, e⟩ := h; exact ⟨_, e⟩
def B2 (n : Nat) (u0 u1 : Int) : Prop := Bd n u0 ∧ Bd n u1
def B3 (n : Nat) (u0 u1 u2 : Int) : Prop := Bd n u0 ∧ Bd n u1 ∧ Bd n u2
def B4 (n : Nat) (u0 u1 u2 u3 : Int) : Prop := Bd n u0 ∧ Bd n u1 ∧ Bd n u2 ∧ Bd n u3
theorem B4.b3 {n : Nat} {u0 u1 u2 u3 : Int} (h : B4 n u0 u1 u2 u3) : B3 n u0 u1 u2 := ⟨h.1, h.2.1, h.2.2.1⟩
theorem B4.mono {m n : Nat} {u0 u1 u2 u3 : Int} (h : B4 m u0 u1 u2 u3) (l : m ≤ n) : B4 n u0 u1 u2 u3 := ⟨h.1.mono l, h.2.1.mono l, h.2.2.1.mono l, h.2.2.2.mono l⟩
theorem B3.mono {m n : Nat} {u0 u1 u2 : Int} (h : B3 m u0 u1 u2) (l : m ≤ n) : B3 n u0 u1 u2 := ⟨h.1.mono l, h.2.1.mono l, h.2.2.mono l⟩
section
variable {T : Sto} {P : D → Sto → Prop} {X : Xc → Sto → Prop}
noncomputable def sp_ranked : DSp := lock <| sp2 fun a b T P _ => ∃ u0 u1 v0 v1 n, V2 T a u0 u1 ∧ V2 T b v0 v1 ∧ B2 n u0 u1 ∧ B2 n v0 v1 ∧ n ≤ 100000 ∧ P (.int (if u0 * v1 < v0 * u1 then -1 else if u0 * v1 > v0 * u1 then 1 else 0)) T
def d_ranked : DS := (dSeq (dAsg (dMul (dIx (dVar 0) (dC (.int 0))) (dIx (dVar 1) (dC (.int 1)))) 2) (dSeq (dAsg (dMul (dIx (dVar 1) (dC (.int 0))) (dIx (dVar 0) (dC (.int 1)))) 3) (dSeq (dIf (dTst (dLt (dVar 2) (dVar 3))) (dRet (dNeg (dC (.int 1)))) dNext) (dSeq (dIf (dTst (dGt (dVar 2) (dVar 3))) (dRet (dC (.int 1))) dNext) (dRet (dC (.int 0)))))))
/-- a fraction that the law draws -/
def IsFr (n : Nat) (t b : Int) : Prop := 0 < b ∧ gcdL [t, b] = 1 ∧ B2 n t b
theorem pos_of_mul {g b : Int} (hg : 0 < g) (h : 0 < g * b) : 0 < b := by
  by_cases z : 0 < b
  · exact z
  · have := Int.mul_nonpos_of_nonneg_of_nonpos (Int.le_of_lt hg) (show b ≤ 0 by omega)
    omega
noncomputable def sp_l_fraction : DSp := lock <| sp1 fun a T P _ => ∃ r, a = .ptr r ∧ T r = some .row ∧ ∀ t b : Int, IsFr 140 t b → P (.tup [.int t, .int b]) T
def d_l_fraction : DS := (dSeq (dAsg (dIx (dLst (dCons (dC (.int 12)) (dCons (dPow (dC (.int 10)) (dC (.int 6))) (dCons (dPow (dC (.int 10)) (dC (.int 40))) dNil)))) (dCall sp_l_take (dCons (dVar 0) (dCons (dC (.int 3)) dNil)))) 1) (dSeq (dAsg (dSub (dCall sp_l_take (dCons (dVar 0) (dCons (dAdd (dMul (dC (.int 2)) (dVar 1)) (dC (.int 1))) dNil))) (dVar 1)) 2) (dRet (dCall sp_l_lowest (dCons (dLst (dCons (dVar 2) (dCons (dAdd (dC (.int 1)) (dCall sp_l_take (dCons (dVar 0) (dCons (dVar 1) dNil)))) dNil))) dNil)))))
end
end SY

namespace SY
open PySem PySem.Spec PyProof.Rows L2
/-! ### points -/
def IsPt (n : Nat) (x y z w : Int) : Prop := 0 < w ∧ gcdL [x, y, z, w] = 1 ∧ B4 n x y z w
theorem IsPt.mono {m n : Nat} {x y z w : Int} (h : IsPt m x y z w) (l : m ≤ n) : IsPt n x y z w := ⟨h.1, h.2.1, h.2.2.mono l⟩
theorem all4 {n : Nat} {x y z w : Int} (h : B4 n x y z w) : ∀ v ∈ [x, y, z, w], Bd n v := fun v hv => by
  simp only [List.mem_cons, List.not_mem_nil, or_false] at hv
  rcases hv with rfl | rfl | rfl | rfl
  · exact h.1
  · exact h.2.1
  · exact h.2.2.1
  · exact h.2.2.2
theorem low4' {n : Nat} {x y z w u : Int} (hu : u ∈ [x, y, z, w]) (h0 : u ≠ 0) (h : B4 n x y z w) : ∃ x' y' z' w' g, lowZ [x, y, z, w] = [x', y', z', w'] ∧ 0 < g ∧ x = g * x' ∧ y = g * y' ∧ z = g * z' ∧ w = g * w' ∧ gcdL [x', y', z', w'] = 1 ∧ B4 n x' y' z' w' := by
  have hm := lowZ_mul [x, y, z, w]
  have hg := lowZ_gcd (ns := [x, y, z, w]) hu h0
  have hbd := lowZ_bd (ns := [x, y, z, w]) (n := n) (all4 h)
  have hp := lowBy_pos [x, y, z, w]
  have hs : ∃ x' y' z' w', lowZ [x, y, z, w] = [x', y', z', w'] := ⟨_, _, _, _, rfl⟩
  generalize lowBy [x, y, z, w] = g at *
  obtain ⟨x', y', z', w', e⟩ := hs
  rw [e] at hm hg hbd
  simp only [List.map_cons, List.map_nil, List.cons.injEq, and_true] at hm
  exact ⟨x', y', z', w', g, e, by omega, hm.1.symm, hm.2.1.symm, hm.2.2.1.symm, hm.2.2.2.symm, hg, hbd _ (by simp), hbd _ (by simp), hbd _ (by simp), hbd _ (by simp)⟩
theorem low4 {n : Nat} {x y z w : Int} (hw : 0 < w) (h : B4 n x y z w) : ∃ x' y' z' w' g, lowZ [x, y, z, w] = [x', y', z', w'] ∧ 0 < g ∧ x = g * x' ∧ y = g * y' ∧ z = g * z' ∧ w = g * w' ∧ IsPt n x' y' z' w' := by
  obtain ⟨x', y', z', w', g, e, hg, h1, h2, h3, h4, h5, h6⟩ := low4' (u := w) (by simp) (by omega) h
  exact ⟨x', y', z', w', g, e, hg, h1, h2, h3, h4, pos_of_mul hg (by rw [← h4]; exact hw), h5, h6⟩
section
variable {T : Sto} {P : D → Sto → Prop} {X : Xc → Sto → Prop}
noncomputable def sp_l_point : DSp := lock <| sp3 fun a b c T P _ => ∃ r, a = .ptr r ∧ T r = some .row ∧ int2 b c fun s m => (0 < s ∧ s ≤ 10 ^ 13 ∧ 0 < m ∧ m ≤ 10 ^ 13) ∧ ∀ x y z w : Int, IsPt 45 x y z w → P (.tup [.int x, .int y, .int z, .int w]) T
def d_l_point : DS := (dSeq (dAsg (dAdd (dC (.int 1)) (dCall sp_l_take (dCons (dVar 0) (dCons (dVar 2) dNil)))) 3) (dSeq (dAsg (dAdd (dMul (dC (.int 2)) (dVar 1)) (dC (.int 1))) 4) (dSeq (dAsg (dLcR 6 (dCons (dC (.int 3)) dNil) (dSub (dCall sp_l_take (dCons (dVar 0) (dCons (dVar 4) dNil))) (dVar 1))) 5) (dRet (dCall sp_l_lowest (dCons (dAdd (dVar 5) (dLst (dCons (dVar 3) dNil))) dNil))))))
theorem pure_l_point {N : List Str} (hN : N.length = 7) : ∀ us T P X, sp_l_point us T P X → d_l_point (dend0 P X) (startD N us) T := by
  intro us T P X h
  obtain ⟨a, b, c, rfl, h1⟩ := sp3.of (lock_of h)
  obtain ⟨r, rfl, hr, h2⟩ := h1
  obtain ⟨s, m, rfl, rfl, ⟨s0, s1, m0, m1⟩, h3⟩ := int2.of h2
  have e : startD N [D.ptr r, D.int s, D.int m] = [some (.ptr r), some (.int s), some (.int m), none, none, none, none] := by unfold startD; rw [hN]; rfl
  rw [e]
  unfold d_l_point
  walk_at "dx"
  have bm : Bd 44 m := Bd.rng (m := 10 ^ 13) (by omega) (by omega) (Bd.lit (by decide))
  have bs : Bd 44 s := Bd.rng (m := 10 ^ 13) (by omega) (by omega) (Bd.lit (by decide))
  have bq : Bd 8000 (2 * s + 1) := by walk_at "bt"
  refine sp_take_mk hr m0 (by walk_at "bt") fun k k0 k1 => ?_
  walk_at "dx"
  refine ⟨mulOk_l (by decide), ?_⟩
  refine ⟨⟨by decide, by decide⟩, ?_⟩
  refine sp_take_mk hr (by omega) bq fun x x0 x1 => ?_
  walk_at "dx"
  refine sp_take_mk hr (by omega) bq fun y y0 y1 => ?_
  walk_at "dx"
  refine sp_take_mk hr (by omega) bq fun z z0 z1 => ?_
  walk_at "dx"
  have bd : B4 45 (x - s) (y - s) (z - s) (1 + k) := ⟨Bd.rng (m := 10 ^ 13) (by omega) (by omega) (Bd.lit (by decide)), Bd.rng (m := 10 ^ 13) (by omega) (by omega) (Bd.lit (by decide)), Bd.rng (m := 10 ^ 13) (by omega) (by omega) (Bd.lit (by decide)), Bd.rng (m := 10 ^ 13) (by omega) (by omega) (Bd.lit (by decide))⟩
  refine sp_l_lowest_mk (ns := [x - s, y - s, z - s, 1 + k]) rfl (fun v hv => (all4 bd v hv).mono (by decide)) (by simp) ?_
  obtain ⟨x', y', z', w', g, e, _, _, _, _, _, fr⟩ := low4 (by omega) bd
  rw [e]
  exact h3 _ _ _ _ fr
noncomputable def sp_l_free : DSp := lock <| sp1 fun a T P _ => ∃ r, a = .ptr r ∧ T r = some .row ∧ ∀ x y z w : Int, IsPt 45 x y z w → P (.tup [.int x, .int y, .int z, .int w]) T
def d_l_free : DS := (dSeq (dAsg (dIx (dLst (dCons (dC (.int 3)) (dCons (dC (.int 1000)) (dCons (dPow (dC (.int 10)) (dC (.int 12))) dNil)))) (dCall sp_l_take (dCons (dVar 0) (dCons (dC (.int 3)) dNil)))) 1) (dSeq (dAsg (dIx (dLst (dCons (dC (.int 1)) (dCons (dC (.int 4)) (dCons (dC (.int 1000)) dNil)))) (dCall sp_l_take (dCons (dVar 0) (dCons (dC (.int 3)) dNil)))) 2) (dRet (dCall sp_l_point (dCons (dVar 0) (dCons (dVar 1) (dCons (dVar 2) dNil)))))))
theorem sp_l_point_mk {r : Addr} {s m : Int} (hr : T r = some .row) (h0 : 0 < s ∧ s ≤ 10 ^ 13 ∧ 0 < m ∧ m ≤ 10 ^ 13) (h : ∀ x y z w : Int, IsPt 45 x y z w → P (.tup [.int x, .int y, .int z, .int w]) T) : sp_l_point [.ptr r, .int s, .int m] T P X := lock_at ⟨r, rfl, hr, h0, h⟩
theorem pure_l_free {N : List Str} (hN : N.length = 3) : ∀ us T P X, sp_l_free us T P X → d_l_free (dend0 P X) (startD N us) T := by
  intro us T P X h
  obtain ⟨a, rfl, h1⟩ := sp1.of (lock_of h)
  obtain ⟨r, rfl, hr, h2⟩ := h1
  have e : startD N [D.ptr r] = [some (.ptr r), none, none] := by unfold startD; rw [hN]; rfl
  rw [e]
  unfold d_l_free
  walk_at "dx"
  refine ⟨⟨by decide, by decide, by decide⟩, sp_take_mk hr (by decide) (Bd.lit (by decide)) fun k k0 k3 => ?_⟩
  refine pick (R := fun d => ∃ i, d = .int i ∧ 0 < i ∧ i ≤ 10 ^ 13) k0 k3 (fun d hd => ?_) fun d ⟨i, ei, i0, i1⟩ => ?_
  · simp only [List.mem_cons, List.not_mem_nil, or_false] at hd
    rcases hd with rfl | rfl | rfl <;> exact ⟨_, rfl, by decide, by decide⟩
  subst ei
  walk_at "dx"
  refine sp_take_mk hr (by decide) (Bd.lit (by decide)) fun k k0 k3 => ?_
  refine pick (R := fun d => ∃ i, d = .int i ∧ 0 < i ∧ i ≤ 10 ^ 13) k0 k3 (fun d hd => ?_) fun d ⟨j, ej, j0, j1⟩ => ?_
  · simp only [List.mem_cons, List.not_mem_nil, or_false] at hd
    rcases hd with rfl | rfl | rfl <;> exact ⟨_, rfl, by decide, by decide⟩
  subst ej
  walk_at "dx"
  exact sp_l_point_mk hr ⟨i0, i1, j0, j1⟩ h2
theorem sp_l_free_mk {r : Addr} (hr : T r = some .row) (h : ∀ x y z w : Int, IsPt 45 x y z w → P (.tup [.int x, .int y, .int z, .int w]) T) : sp_l_free [.ptr r] T P X := lock_at ⟨r, rfl, hr, h⟩
/-- p and the way from r to q -/
noncomputable def sp_l_sum : DSp := lock <| sp3 fun a b c T P _ => ∃ p0 p1 p2 p3 q0 q1 q2 q3 r0 r1 r2 r3 n, V4 T a p0 p1 p2 p3 ∧ V4 T b q0 q1 q2 q3 ∧ V4 T c r0 r1 r2 r3 ∧ B4 n p0 p1 p2 p3 ∧ B4 n q0 q1 q2 q3 ∧ B4 n r0 r1 r2 r3 ∧ n ≤ 2000 ∧
  P (.tup ((lowZ [p0 * q3 * r3 + q0 * p3 * r3 - r0 * p3 * q3, p1 * q3 * r3 + q1 * p3 * r3 - r1 * p3 * q3, p2 * q3 * r3 + q2 * p3 * r3 - r2 * p3 * q3, p3 * q3 * r3]).map .int)) T
def d_l_sum : DS := (dSeq (dAsg (dLstM dNil) 3) (dSeq (dForR1 (dgName 4) (dCons (dC (.int 3)) dNil) (dSeq (dAsg (dAdd (dMul (dMul (dIx (dVar 0) (dVar 4)) (dIx (dVar 1) (dC (.int 3)))) (dIx (dVar 2) (dC (.int 3)))) (dMul (dMul (dIx (dVar 1) (dVar 4)) (dIx (dVar 0) (dC (.int 3)))) (dIx (dVar 2) (dC (.int 3))))) 5) (dDrop (dApp (dVar 3) (dSub (dVar 5) (dMul (dMul (dIx (dVar 2) (dVar 4)) (dIx (dVar 0) (dC (.int 3)))) (dIx (dVar 1) (dC (.int 3))))))))) (dRet (dCall sp_l_lowest (dCons (dAdd (dVar 3) (dLst (dCons (dMul (dMul (dIx (dVar 0) (dC (.int 3))) (dIx (dVar 1) (dC (.int 3)))) (dIx (dVar 2) (dC (.int 3)))) dNil))) dNil)))))
end
end SY

namespace SY
open PySem PySem.Spec PyProof.Rows L2
section
variable {T : Sto} {P : D → Sto → Prop} {X : Xc → Sto → Prop}
/-- k / m of the way from p to q -/
noncomputable def sp_l_along : DSp := lock <| sp4 fun a b c d T P _ => int2 c d fun k m => ∃ p0 p1 p2 p3 q0 q1 q2 q3 n, V4 T a p0 p1 p2 p3 ∧ V4 T b q0 q1 q2 q3 ∧ B4 n p0 p1 p2 p3 ∧ B4 n q0 q1 q2 q3 ∧ Bd 60 k ∧ Bd 60 m ∧ n ≤ 2000 ∧
  P (.tup ((lowZ [p0 * (q3 * (m - k)) + q0 * (p3 * k), p1 * (q3 * (m - k)) + q1 * (p3 * k), p2 * (q3 * (m - k)) + q2 * (p3 * k), m * p3 * q3]).map .int)) T
def d_l_along : DS := (dSeq (dAsg (dMul (dIx (dVar 1) (dC (.int 3))) (dSub (dVar 3) (dVar 2))) 4) (dSeq (dAsg (dMul (dIx (dVar 0) (dC (.int 3))) (dVar 2)) 5) (dSeq (dAsg (dLcR 7 (dCons (dC (.int 3)) dNil) (dAdd (dMul (dIx (dVar 0) (dVar 7)) (dVar 4)) (dMul (dIx (dVar 1) (dVar 7)) (dVar 5)))) 6) (dRet (dCall sp_l_lowest (dCons (dAdd (dVar 6) (dLst (dCons (dMul (dMul (dVar 3) (dIx (dVar 0) (dC (.int 3)))) (dIx (dVar 1) (dC (.int 3)))) dNil))) dNil))))))
theorem pure_l_along {N : List Str} (hN : N.length = 8) : ∀ us T P X, sp_l_along us T P X → d_l_along (dend0 P X) (startD N us) T := by
  intro us T P X h
  obtain ⟨a, b, c, d, rfl, h1⟩ := sp4.of (lock_of h)
  obtain ⟨k, m, rfl, rfl, h1⟩ := int2.of h1
  obtain ⟨p0, p1, p2, p3, q0, q1, q2, q3, n, ⟨s1, ha⟩, ⟨s2, hb⟩, bp, bq, bk, bm, hn, h2⟩ := h1
  have e : startD N [a, b, .int k, .int m] = [some a, some b, some (.int k), some (.int m), none, none, none, none] := by unfold startD; rw [hN]; rfl
  rw [e]
  unfold d_l_along
  obtain ⟨pa, pb, pc, pd⟩ := bp.mono hn
  obtain ⟨qa, qb, qc, qd⟩ := bq.mono hn
  walk_at "dx"
  simp only [ha, hb]
  walk_at "dx"
  walk_at "mos"
  refine ⟨⟨by decide, by decide⟩, ?_⟩
  walk_at "mos"
  exact sp_l_lowest_mk (ns := [p0 * (q3 * (m - k)) + q0 * (p3 * k), p1 * (q3 * (m - k)) + q1 * (p3 * k), p2 * (q3 * (m - k)) + q2 * (p3 * k), m * p3 * q3]) rfl (all4 ⟨by walk_at "bt", by walk_at "bt", by walk_at "bt", by walk_at "bt"⟩) (by simp) h2
theorem sp_l_along_mk {a b : D} {k m p0 p1 p2 p3 q0 q1 q2 q3 : Int} {n : Nat} (ha : V4 T a p0 p1 p2 p3) (hb : V4 T b q0 q1 q2 q3) (bp : B4 n p0 p1 p2 p3) (bq : B4 n q0 q1 q2 q3) (bk : Bd 60 k) (bm : Bd 60 m) (hn : n ≤ 2000)
    (h : P (.tup ((lowZ [p0 * (q3 * (m - k)) + q0 * (p3 * k), p1 * (q3 * (m - k)) + q1 * (p3 * k), p2 * (q3 * (m - k)) + q2 * (p3 * k), m * p3 * q3]).map .int)) T) : sp_l_along [a, b, .int k, .int m] T P X := lock_at ⟨_, _, _, _, _, _, _, _, n, ha, hb, bp, bq, bk, bm, hn, h⟩
/-- halfway -/
noncomputable def sp_l_mid : DSp := lock <| sp2 fun a b T P _ => ∃ p0 p1 p2 p3 q0 q1 q2 q3 n, V4 T a p0 p1 p2 p3 ∧ V4 T b q0 q1 q2 q3 ∧ B4 n p0 p1 p2 p3 ∧ B4 n q0 q1 q2 q3 ∧ n ≤ 2000 ∧
  P (.tup ((lowZ [p0 * q3 + q0 * p3, p1 * q3 + q1 * p3, p2 * q3 + q2 * p3, 2 * p3 * q3]).map .int)) T
def d_l_mid : DS := (dSeq (dAsg (dLcR 3 (dCons (dC (.int 3)) dNil) (dAdd (dMul (dIx (dVar 0) (dVar 3)) (dIx (dVar 1) (dC (.int 3)))) (dMul (dIx (dVar 1) (dVar 3)) (dIx (dVar 0) (dC (.int 3)))))) 2) (dRet (dCall sp_l_lowest (dCons (dAdd (dVar 2) (dLst (dCons (dMul (dMul (dC (.int 2)) (dIx (dVar 0) (dC (.int 3)))) (dIx (dVar 1) (dC (.int 3)))) dNil))) dNil))))
/-- a tuple of so many whole numbers; the same as the due one -/
noncomputable def sp_l_wholes : DSp := lock <| sp2 fun a b T P _ => ∃ ns : List Int, a = .tup (ns.map .int) ∧ ns.length ≤ 1000 ∧ int1 b fun m => P (.bl (decide ((ns.length : Int) = m))) T
def d_l_wholes : DS := (dSeq (dIf (dtOr (dtNot (dTst (dIsi "tuple" (dVar 0)))) (dTst (dNe (dLen (dVar 0)) (dVar 1)))) (dRet (dC (.bl false))) dNext) (dRet (dAll (dLc 2 (dVar 0) (dCall sp_l_whole (dCons (dVar 2) dNil))))))
theorem bls_true : ∀ ns : List Int, blsOf ((ns.map D.int).map fun _ => D.bl true) = some (ns.map fun _ => true)
  | [] => rfl
  | n :: ns => by
    show (blsOf ((ns.map D.int).map fun _ => D.bl true)).map (true :: ·) = _
    rw [bls_true ns]
    rfl
theorem pure_l_wholes {N : List Str} (hN : N.length = 3) : ∀ us T P X, sp_l_wholes us T P X → d_l_wholes (dend0 P X) (startD N us) T := by
  intro us T P X h
  obtain ⟨a, b, rfl, h1⟩ := sp2.of (lock_of h)
  obtain ⟨ns, rfl, hl, h1⟩ := h1
  obtain ⟨m, rfl, h2⟩ := int1.of h1
  have e : startD N [D.tup (ns.map .int), .int m] = [some (.tup (ns.map .int)), some (.int m), none] := by unfold startD; rw [hN]; rfl
  rw [e]
  unfold d_l_wholes
  walk_at "dx"
  simp only [List.length_map]
  by_cases hm : (ns.length : Int) = m
  · rw [decide_eq_true hm] at h2 ⊢
    walk_at "dx"
    refine ⟨by omega, ?_⟩
    refine lcL_map (f := fun _ => .bl true) (ns.map .int) [] (fun d hd P X hp => ?_) ?_
    · obtain ⟨n, _, rfl⟩ := List.mem_map.mp hd
      walk_at "dx"
      rw [sp_l_whole_eq]
      exact hp
    · rw [List.nil_append, bls_true]
      show P (.bl ((ns.map fun _ => true).all id)) T
      have : (ns.map fun _ => true).all id = true := by simp
      rw [this]
      exact h2
  · rw [decide_eq_false hm] at h2 ⊢
    walk_at "dx"
    exact h2
noncomputable def sp_l_same : DSp := lock <| sp2 fun a b T P _ => ∃ ns ms : List Int, a = .tup (ns.map .int) ∧ b = .tup (ms.map .int) ∧ ns.length ≤ 1000 ∧ eqOk a = true ∧ eqOk b = true ∧ P (.bl (decide (ns = ms))) T
def d_l_same : DS := (dRet (dAnd (dCall sp_l_wholes (dCons (dVar 0) (dCons (dLen (dVar 1)) dNil))) (dEq (dVar 0) (dVar 1))))
end
end SY

namespace SY
open PySem PySem.Spec PyProof.Rows L2
section
variable {T : Sto} {P : D → Sto → Prop} {X : Xc → Sto → Prop}
/-- point of four numbers -/
noncomputable def sp_point : DSp := lock <| sp4 fun a b c d T P X => int2 a b fun x y => int2 c d fun z w => if w = 0 then X "LastNought" T else B4 8000 x y z w ∧ P (.tup ((if w < 0 then (lowZ [-x, -y, -z, -w]).map .int else (lowZ [x, y, z, w]).map .int))) T
def d_point : DS := (dSeq (dIf (dTst (dEq (dVar 3) (dC (.int 0)))) (dRaise "LastNought") dNext) (dSeq (dIf (dTst (dLt (dVar 3) (dC (.int 0)))) (dRet (dCall sp_lowest (dCons (dTup (dCons (dNeg (dVar 0)) (dCons (dNeg (dVar 1)) (dCons (dNeg (dVar 2)) (dCons (dNeg (dVar 3)) dNil))))) dNil))) dNext) (dRet (dCall sp_lowest (dCons (dTup (dCons (dVar 0) (dCons (dVar 1) (dCons (dVar 2) (dCons (dVar 3) dNil))))) dNil)))))
noncomputable def sp_amid : DSp := lock <| sp2 fun a b T P _ => ∃ p0 p1 p2 p3 q0 q1 q2 q3 n, V4 T a p0 p1 p2 p3 ∧ V4 T b q0 q1 q2 q3 ∧ 0 < p3 ∧ 0 < q3 ∧ B4 n p0 p1 p2 p3 ∧ B4 n q0 q1 q2 q3 ∧ n ≤ 2000 ∧
  P (.tup ((lowZ [p0 * q3 + q0 * p3, p1 * q3 + q1 * p3, p2 * q3 + q2 * p3, 2 * p3 * q3]).map .int)) T
def d_amid : DS := (dSeq (dAsg (dAdd (dMul (dIx (dVar 0) (dC (.int 0))) (dIx (dVar 1) (dC (.int 3)))) (dMul (dIx (dVar 1) (dC (.int 0))) (dIx (dVar 0) (dC (.int 3))))) 2) (dSeq (dAsg (dAdd (dMul (dIx (dVar 0) (dC (.int 1))) (dIx (dVar 1) (dC (.int 3)))) (dMul (dIx (dVar 1) (dC (.int 1))) (dIx (dVar 0) (dC (.int 3))))) 3) (dSeq (dAsg (dAdd (dMul (dIx (dVar 0) (dC (.int 2))) (dIx (dVar 1) (dC (.int 3)))) (dMul (dIx (dVar 1) (dC (.int 2))) (dIx (dVar 0) (dC (.int 3))))) 4) (dRet (dCall sp_point (dCons (dVar 2) (dCons (dVar 3) (dCons (dVar 4) (dCons (dMul (dMul (dC (.int 2)) (dIx (dVar 0) (dC (.int 3)))) (dIx (dVar 1) (dC (.int 3)))) dNil)))))))))
end
end SY

namespace SY
open PySem PySem.Spec PyProof.Rows L2
def tr3 (u0 u1 u2 v0 v1 v2 t0 t1 t2 : Int) : Int := u0 * (v1 * t2 - v2 * t1) + u1 * (v2 * t0 - v0 * t2) + u2 * (v0 * t1 - v1 * t0)
def t4 (p0 p1 p2 p3 q0 q1 q2 q3 r0 r1 r2 r3 s0 s1 s2 s3 : Int) : Int := p3 * tr3 q0 q1 q2 r0 r1 r2 s0 s1 s2 - q3 * tr3 p0 p1 p2 r0 r1 r2 s0 s1 s2 + r3 * tr3 p0 p1 p2 q0 q1 q2 s0 s1 s2 - s3 * tr3 p0 p1 p2 q0 q1 q2 r0 r1 r2
section
variable {T : Sto} {P : D → Sto → Prop} {X : Xc → Sto → Prop}
theorem B3.b4 {n : Nat} {a b c d : Int} (h : B3 n a b c) (hd : Bd n d) : B4 n a b c d := ⟨h.1, h.2.1, h.2.2, hd⟩
noncomputable def sp_arrow : DSp := lock <| sp2 fun a b T P _ => ∃ p0 p1 p2 p3 q0 q1 q2 q3 n, V4 T a p0 p1 p2 p3 ∧ V4 T b q0 q1 q2 q3 ∧ B4 n p0 p1 p2 p3 ∧ B4 n q0 q1 q2 q3 ∧ n ≤ 20000 ∧
  P (.tup [.int (q0 * p3 - p0 * q3), .int (q1 * p3 - p1 * q3), .int (q2 * p3 - p2 * q3)]) T
def d_arrow : DS := (dSeq (dAsg (dSub (dMul (dIx (dVar 1) (dC (.int 0))) (dIx (dVar 0) (dC (.int 3)))) (dMul (dIx (dVar 0) (dC (.int 0))) (dIx (dVar 1) (dC (.int 3))))) 2) (dSeq (dAsg (dSub (dMul (dIx (dVar 1) (dC (.int 1))) (dIx (dVar 0) (dC (.int 3)))) (dMul (dIx (dVar 0) (dC (.int 1))) (dIx (dVar 1) (dC (.int 3))))) 3) (dSeq (dAsg (dSub (dMul (dIx (dVar 1) (dC (.int 2))) (dIx (dVar 0) (dC (.int 3)))) (dMul (dIx (dVar 0) (dC (.int 2))) (dIx (dVar 1) (dC (.int 3))))) 4) (dRet (dTup (dCons (dVar 2) (dCons (dVar 3) (dCons (dVar 4) dNil))))))))
noncomputable def sp_cross : DSp := lock <| sp2 fun a b T P _ => ∃ u0 u1 u2 v0 v1 v2 n, V3 T a u0 u1 u2 ∧ V3 T b v0 v1 v2 ∧ B3 n u0 u1 u2 ∧ B3 n v0 v1 v2 ∧ n ≤ 60000 ∧
  P (.tup [.int (u1 * v2 - u2 * v1), .int (u2 * v0 - u0 * v2), .int (u0 * v1 - u1 * v0)]) T
def d_cross : DS := (dSeq (dAsg (dSub (dMul (dIx (dVar 0) (dC (.int 1))) (dIx (dVar 1) (dC (.int 2)))) (dMul (dIx (dVar 0) (dC (.int 2))) (dIx (dVar 1) (dC (.int 1))))) 2) (dSeq (dAsg (dSub (dMul (dIx (dVar 0) (dC (.int 2))) (dIx (dVar 1) (dC (.int 0)))) (dMul (dIx (dVar 0) (dC (.int 0))) (dIx (dVar 1) (dC (.int 2))))) 3) (dSeq (dAsg (dSub (dMul (dIx (dVar 0) (dC (.int 0))) (dIx (dVar 1) (dC (.int 1)))) (dMul (dIx (dVar 0) (dC (.int 1))) (dIx (dVar 1) (dC (.int 0))))) 4) (dRet (dTup (dCons (dVar 2) (dCons (dVar 3) (dCons (dVar 4) dNil))))))))
noncomputable def sp_l_cross : DSp := lock <| sp2 fun a b T P _ => ∃ u0 u1 u2 v0 v1 v2 n, V3 T a u0 u1 u2 ∧ V3 T b v0 v1 v2 ∧ B3 n u0 u1 u2 ∧ B3 n v0 v1 v2 ∧ n ≤ 60000 ∧
  P (.lst [.int (u1 * v2 - u2 * v1), .int (u2 * v0 - u0 * v2), .int (u0 * v1 - u1 * v0)]) T
def d_l_cross : DS := (dSeq (dAsg (dSub (dMul (dIx (dVar 0) (dC (.int 1))) (dIx (dVar 1) (dC (.int 2)))) (dMul (dIx (dVar 0) (dC (.int 2))) (dIx (dVar 1) (dC (.int 1))))) 2) (dSeq (dAsg (dSub (dMul (dIx (dVar 0) (dC (.int 2))) (dIx (dVar 1) (dC (.int 0)))) (dMul (dIx (dVar 0) (dC (.int 0))) (dIx (dVar 1) (dC (.int 2))))) 3) (dSeq (dAsg (dSub (dMul (dIx (dVar 0) (dC (.int 0))) (dIx (dVar 1) (dC (.int 1)))) (dMul (dIx (dVar 0) (dC (.int 1))) (dIx (dVar 1) (dC (.int 0))))) 4) (dRet (dLst (dCons (dVar 2) (dCons (dVar 3) (dCons (dVar 4) dNil))))))))
theorem pure_l_cross {N : List Str} (hN : N.length = 5) : ∀ us T P X, sp_l_cross us T P X → d_l_cross (dend0 P X) (startD N us) T := by
  intro us T P X h
  obtain ⟨a, b, rfl, h1⟩ := sp2.of (lock_of h)
  obtain ⟨u0, u1, u2, v0, v1, v2, n, ⟨s1, ha⟩, ⟨s2, hb⟩, bp, bq, hn, h2⟩ := h1
  have e : startD N [a, b] = [some a, some b, none, none, none] := by unfold startD; rw [hN]; rfl
  rw [e]
  unfold d_l_cross
  obtain ⟨pa, pb, pc⟩ := bp.mono hn
  obtain ⟨qa, qb, qc⟩ := bq.mono hn
  walk_at "dx"
  simp only [ha, hb]
  walk_at "dx"
  walk_at "mos"
  exact h2
theorem sp_l_cross_mk {a b : D} {u0 u1 u2 v0 v1 v2 : Int} {n : Nat} (ha : V3 T a u0 u1 u2) (hb : V3 T b v0 v1 v2) (bu : B3 n u0 u1 u2) (bv : B3 n v0 v1 v2) (hn : n ≤ 60000)
    (h : P (.lst [.int (u1 * v2 - u2 * v1), .int (u2 * v0 - u0 * v2), .int (u0 * v1 - u1 * v0)]) T) : sp_l_cross [a, b] T P X := lock_at ⟨_, _, _, _, _, _, n, ha, hb, bu, bv, hn, h⟩
noncomputable def sp_dot : DSp := lock <| sp2 fun a b T P _ => ∃ u0 u1 u2 v0 v1 v2 n, V3 T a u0 u1 u2 ∧ V3 T b v0 v1 v2 ∧ B3 n u0 u1 u2 ∧ B3 n v0 v1 v2 ∧ n ≤ 200000 ∧ P (.int (u0 * v0 + u1 * v1 + u2 * v2)) T
def d_dot : DS := (dRet (dAdd (dAdd (dMul (dIx (dVar 0) (dC (.int 0))) (dIx (dVar 1) (dC (.int 0)))) (dMul (dIx (dVar 0) (dC (.int 1))) (dIx (dVar 1) (dC (.int 1))))) (dMul (dIx (dVar 0) (dC (.int 2))) (dIx (dVar 1) (dC (.int 2))))))
theorem pure_dot {N : List Str} (hN : N.length = 2) : ∀ us T P X, sp_dot us T P X → d_dot (dend0 P X) (startD N us) T := by
  intro us T P X h
  obtain ⟨a, b, rfl, h1⟩ := sp2.of (lock_of h)
  obtain ⟨u0, u1, u2, v0, v1, v2, n, ⟨s1, ha⟩, ⟨s2, hb⟩, bp, bq, hn, h2⟩ := h1
  have e : startD N [a, b] = [some a, some b] := by unfold startD; rw [hN]; rfl
  rw [e]
  unfold d_dot
  obtain ⟨pa, pb, pc⟩ := bp.mono hn
  obtain ⟨qa, qb, qc⟩ := bq.mono hn
  walk_at "dx"
  simp only [ha, hb]
  walk_at "dx"
  walk_at "mos"
  exact h2
theorem sp_dot_mk {a b : D} {u0 u1 u2 v0 v1 v2 : Int} {n : Nat} (ha : V3 T a u0 u1 u2) (hb : V3 T b v0 v1 v2) (bu : B3 n u0 u1 u2) (bv : B3 n v0 v1 v2) (hn : n ≤ 200000)
    (h : P (.int (u0 * v0 + u1 * v1 + u2 * v2)) T) : sp_dot [a, b] T P X := lock_at ⟨_, _, _, _, _, _, n, ha, hb, bu, bv, hn, h⟩
noncomputable def sp_sign_of : DSp := lock <| sp1 fun a T P _ => int1 a fun x => P (.int x.sign) T
def d_sign_of : DS := (dSeq (dIf (dTst (dLt (dVar 0) (dC (.int 0)))) (dRet (dNeg (dC (.int 1)))) dNext) (dSeq (dIf (dTst (dGt (dVar 0) (dC (.int 0)))) (dRet (dC (.int 1))) dNext) (dRet (dC (.int 0)))))
theorem pure_sign_of {N : List Str} (hN : N.length = 1) : ∀ us T P X, sp_sign_of us T P X → d_sign_of (dend0 P X) (startD N us) T := by
  intro us T P X h
  obtain ⟨a, rfl, h1⟩ := sp1.of (lock_of h)
  obtain ⟨x, rfl, h2⟩ := int1.of h1
  have e : startD N [D.int x] = [some (.int x)] := by unfold startD; rw [hN]; rfl
  rw [e]
  unfold d_sign_of
  walk_at "dx"
  by_cases h0 : x < 0
  · rw [Int.sign_eq_neg_one_of_neg h0] at h2
    rw [decide_eq_true h0]
    walk_at "dx"
    exact h2
  · rw [decide_eq_false h0]
    walk_at "dx"
    by_cases h3 : 0 < x
    · rw [Int.sign_eq_one_of_pos h3] at h2
      rw [decide_eq_true h3]
      walk_at "dx"
      exact h2
    · have : x = 0 := by omega
      subst this
      exact h2
theorem sp_sign_of_mk {x : Int} (h : P (.int x.sign) T) : sp_sign_of [.int x] T P X := lock_at h
noncomputable def sp_turn : DSp := lock <| sp4 fun a b c d T P _ => ∃ p0 p1 p2 p3 q0 q1 q2 q3 r0 r1 r2 r3 s0 s1 s2 s3 n, V4 T a p0 p1 p2 p3 ∧ V4 T b q0 q1 q2 q3 ∧ V4 T c r0 r1 r2 r3 ∧ V4 T d s0 s1 s2 s3 ∧ 0 < p3 ∧ B4 n p0 p1 p2 p3 ∧ B4 n q0 q1 q2 q3 ∧ B4 n r0 r1 r2 r3 ∧ B4 n s0 s1 s2 s3 ∧ n ≤ 20000 ∧
  P (.int (t4 p0 p1 p2 p3 q0 q1 q2 q3 r0 r1 r2 r3 s0 s1 s2 s3).sign) T
def d_turn : DS := (dRet (dCall sp_sign_of (dCons (dCall sp_dot (dCons (dCall sp_cross (dCons (dCall sp_arrow (dCons (dVar 0) (dCons (dVar 1) dNil))) (dCons (dCall sp_arrow (dCons (dVar 0) (dCons (dVar 2) dNil))) dNil))) (dCons (dCall sp_arrow (dCons (dVar 0) (dCons (dVar 3) dNil))) dNil))) dNil)))
noncomputable def sp_l_three : DSp := lock <| sp3 fun a b c T P _ => ∃ u0 u1 u2 v0 v1 v2 t0 t1 t2 n, V3 T a u0 u1 u2 ∧ V3 T b v0 v1 v2 ∧ V3 T c t0 t1 t2 ∧ B3 n u0 u1 u2 ∧ B3 n v0 v1 v2 ∧ B3 n t0 t1 t2 ∧ n ≤ 60000 ∧ P (.int (tr3 u0 u1 u2 v0 v1 v2 t0 t1 t2)) T
def d_l_three : DS := (dRet (dCall sp_dot (dCons (dVar 0) (dCons (dCall sp_l_cross (dCons (dVar 1) (dCons (dVar 2) dNil))) dNil))))
noncomputable def sp_l_turned : DSp := lock <| sp4 fun a b c d T P _ => ∃ p0 p1 p2 p3 q0 q1 q2 q3 r0 r1 r2 r3 s0 s1 s2 s3 n, V4 T a p0 p1 p2 p3 ∧ V4 T b q0 q1 q2 q3 ∧ V4 T c r0 r1 r2 r3 ∧ V4 T d s0 s1 s2 s3 ∧ B4 n p0 p1 p2 p3 ∧ B4 n q0 q1 q2 q3 ∧ B4 n r0 r1 r2 r3 ∧ B4 n s0 s1 s2 s3 ∧ n ≤ 20000 ∧
  P (.int (t4 p0 p1 p2 p3 q0 q1 q2 q3 r0 r1 r2 r3 s0 s1 s2 s3).sign) T
def d_l_turned : DS := (dSeq (dAsg (dMul (dIx (dVar 0) (dC (.int 3))) (dCall sp_l_three (dCons (dVar 1) (dCons (dVar 2) (dCons (dVar 3) dNil))))) 4) (dSeq (dAsg (dMul (dIx (dVar 1) (dC (.int 3))) (dCall sp_l_three (dCons (dVar 0) (dCons (dVar 2) (dCons (dVar 3) dNil))))) 5) (dSeq (dAsg (dMul (dIx (dVar 2) (dC (.int 3))) (dCall sp_l_three (dCons (dVar 0) (dCons (dVar 1) (dCons (dVar 3) dNil))))) 6) (dSeq (dAsg (dMul (dIx (dVar 3) (dC (.int 3))) (dCall sp_l_three (dCons (dVar 0) (dCons (dVar 1) (dCons (dVar 2) dNil))))) 7) (dSeq (dAsg (dSub (dAdd (dSub (dVar 4) (dVar 5)) (dVar 6)) (dVar 7)) 8) (dRet (dSub (dInt (dGt (dVar 8) (dC (.int 0)))) (dInt (dLt (dVar 8) (dC (.int 0)))))))))))
end
end SY

namespace SY
open PySem PySem.Spec PyProof.Rows L2
/-! ### lines -/
def B6 (n : Nat) (a b c d e f : Int) : Prop := B3 n a b c ∧ B3 n d e f
theorem all6 {n : Nat} {a b c d e f : Int} (h : B6 n a b c d e f) : ∀ v ∈ [a, b, c, d, e, f], Bd n v := fun v hv => by
  simp only [List.mem_cons, List.not_mem_nil, or_false] at hv
  rcases hv with rfl | rfl | rfl | rfl | rfl | rfl
  · exact h.1.1
  · exact h.1.2.1
  · exact h.1.2.2
  · exact h.2.1
  · exact h.2.2.1
  · exact h.2.2.2
theorem low6 {n : Nat} {a b c d e f : Int} (h : B6 n a b c d e f) : ∃ a' b' c' d' e' f' g, lowZ [a, b, c, d, e, f] = [a', b', c', d', e', f'] ∧ 0 < g ∧ a = g * a' ∧ b = g * b' ∧ c = g * c' ∧ d = g * d' ∧ e = g * e' ∧ f = g * f' ∧ B6 n a' b' c' d' e' f' ∧ ((∃ u ∈ [a, b, c, d, e, f], u ≠ 0) → gcdL [a', b', c', d', e', f'] = 1) := by
  have hm := lowZ_mul [a, b, c, d, e, f]
  have hg : (∃ u ∈ [a, b, c, d, e, f], u ≠ 0) → gcdL (lowZ [a, b, c, d, e, f]) = 1 := fun ⟨u, hu, h0⟩ => lowZ_gcd hu h0
  have hbd := lowZ_bd (ns := [a, b, c, d, e, f]) (n := n) (all6 h)
  have hp := lowBy_pos [a, b, c, d, e, f]
  have hs : ∃ a' b' c' d' e' f', lowZ [a, b, c, d, e, f] = [a', b', c', d', e', f'] := ⟨_, _, _, _, _, _, rfl⟩
  generalize lowBy [a, b, c, d, e, f] = g at *
  obtain ⟨a', b', c', d', e', f', q⟩ := hs
  rw [q] at hm hg hbd
  simp only [List.map_cons, List.map_nil, List.cons.injEq, and_true] at hm
  exact ⟨a', b', c', d', e', f', g, q, by omega, hm.1.symm, hm.2.1.symm, hm.2.2.1.symm, hm.2.2.2.1.symm, hm.2.2.2.2.1.symm, hm.2.2.2.2.2.symm, ⟨⟨hbd _ (by simp), hbd _ (by simp), hbd _ (by simp)⟩, hbd _ (by simp), hbd _ (by simp), hbd _ (by simp)⟩, hg⟩
def neg3 (a b c : Int) : Bool := decide (a < 0) || (decide (a = 0) && (decide (b < 0) || (decide (b = 0) && decide (c < 0))))
/-- the six numbers, the first of the way that is not 0 above 0 -/
def flip6 (m : List Int) : List Int := match m with
  | [a, b, c, d, e, f] => if neg3 a b c = true then [-a, -b, -c, -d, -e, -f] else m
  | _ => m
theorem cut6a (a b c d e f : D) : cutD [a, b, c, d, e, f] none (some 3) = [a, b, c] := rfl
section
variable {T : Sto} {P : D → Sto → Prop} {X : Xc → Sto → Prop}
noncomputable def sp_l_arrow : DSp := lock <| sp2 fun a b T P _ => ∃ p0 p1 p2 p3 q0 q1 q2 q3 n, V4 T a p0 p1 p2 p3 ∧ V4 T b q0 q1 q2 q3 ∧ B4 n p0 p1 p2 p3 ∧ B4 n q0 q1 q2 q3 ∧ n ≤ 20000 ∧
  P (.lst [.int (q0 * p3 - p0 * q3), .int (q1 * p3 - p1 * q3), .int (q2 * p3 - p2 * q3)]) T
def d_l_arrow : DS := (dRet (dLcR 2 (dCons (dC (.int 3)) dNil) (dSub (dMul (dIx (dVar 1) (dVar 2)) (dIx (dVar 0) (dC (.int 3)))) (dMul (dIx (dVar 0) (dVar 2)) (dIx (dVar 1) (dC (.int 3)))))))
theorem pure_l_arrow {N : List Str} (hN : N.length = 3) : ∀ us T P X, sp_l_arrow us T P X → d_l_arrow (dend0 P X) (startD N us) T := by
  intro us T P X h
  obtain ⟨a, b, rfl, h1⟩ := sp2.of (lock_of h)
  obtain ⟨p0, p1, p2, p3, q0, q1, q2, q3, n, ⟨s1, ha⟩, ⟨s2, hb⟩, bp, bq, hn, h2⟩ := h1
  have e : startD N [a, b] = [some a, some b, none] := by unfold startD; rw [hN]; rfl
  rw [e]
  unfold d_l_arrow
  obtain ⟨pa, pb, pc, pd⟩ := bp.mono hn
  obtain ⟨qa, qb, qc, qd⟩ := bq.mono hn
  walk_at "dx"
  refine ⟨⟨by decide, by decide⟩, ?_⟩
  simp only [ha, hb]
  walk_at "dx"
  walk_at "mos"
  exact h2
theorem sp_l_arrow_mk {a b : D} {p0 p1 p2 p3 q0 q1 q2 q3 : Int} {n : Nat} (ha : V4 T a p0 p1 p2 p3) (hb : V4 T b q0 q1 q2 q3) (bp : B4 n p0 p1 p2 p3) (bq : B4 n q0 q1 q2 q3) (hn : n ≤ 20000)
    (h : P (.lst [.int (q0 * p3 - p0 * q3), .int (q1 * p3 - p1 * q3), .int (q2 * p3 - p2 * q3)]) T) : sp_l_arrow [a, b] T P X := lock_at ⟨_, _, _, _, _, _, _, _, n, ha, hb, bp, bq, hn, h⟩
def d6 (a b c d e f : Int) : D := .tup [.int a, .int b, .int c, .int d, .int e, .int f]
noncomputable def sp_l_line : DSp := lock <| sp2 fun a b T P _ => ∃ p0 p1 p2 p3 q0 q1 q2 q3 n, V4 T a p0 p1 p2 p3 ∧ V4 T b q0 q1 q2 q3 ∧ B4 n p0 p1 p2 p3 ∧ B4 n q0 q1 q2 q3 ∧ n ≤ 2000 ∧
  P (.tup ((flip6 (lowZ [q0 * p3 - p0 * q3, q1 * p3 - p1 * q3, q2 * p3 - p2 * q3, p1 * q2 - p2 * q1, p2 * q0 - p0 * q2, p0 * q1 - p1 * q0])).map .int)) T
def d_l_line : DS := (dSeq (dAsg (dAdd (dCall sp_l_arrow (dCons (dVar 0) (dCons (dVar 1) dNil))) (dCall sp_l_cross (dCons (dVar 0) (dCons (dVar 1) dNil)))) 2) (dSeq (dAsg (dCall sp_l_lowest (dCons (dVar 2) dNil)) 2) (dSeq (dFor (dgName 3) (dSl (dVar 2) dNoO (dSomeO (dC (.int 3)))) (dSeq (dIf (dTst (dGt (dVar 3) (dC (.int 0)))) (dRet (dVar 2)) dNext) (dIf (dTst (dLt (dVar 3) (dC (.int 0)))) (dRet (dTuple (dLc 4 (dVar 2) (dNeg (dVar 4))))) dNext))) (dRet (dVar 2)))))
theorem pure_l_line {N : List Str} (hN : N.length = 5) : ∀ us T P X, sp_l_line us T P X → d_l_line (dend0 P X) (startD N us) T := by
  intro us T P X h
  obtain ⟨a, b, rfl, h1⟩ := sp2.of (lock_of h)
  obtain ⟨p0, p1, p2, p3, q0, q1, q2, q3, n, ha, hb, bp, bq, hn, h2⟩ := h1
  have e : startD N [a, b] = [some a, some b, none, none, none] := by unfold startD; rw [hN]; rfl
  rw [e]
  unfold d_l_line
  obtain ⟨pa, pb, pc, pd⟩ := bp.mono hn
  obtain ⟨qa, qb, qc, qd⟩ := bq.mono hn
  walk_at "dx"
  refine sp_l_arrow_mk ha hb bp bq (by omega) ?_
  walk_at "dx"
  refine sp_l_cross_mk ha.v3 hb.v3 bp.b3 bq.b3 (by omega) ?_
  walk_at "dx"
  have b6 : B6 5000 (q0 * p3 - p0 * q3) (q1 * p3 - p1 * q3) (q2 * p3 - p2 * q3) (p1 * q2 - p2 * q1) (p2 * q0 - p0 * q2) (p0 * q1 - p1 * q0) := ⟨⟨by walk_at "bt", by walk_at "bt", by walk_at "bt"⟩, by walk_at "bt", by walk_at "bt", by walk_at "bt"⟩
  refine sp_l_lowest_mk (ns := [q0 * p3 - p0 * q3, q1 * p3 - p1 * q3, q2 * p3 - p2 * q3, p1 * q2 - p2 * q1, p2 * q0 - p0 * q2, p0 * q1 - p1 * q0]) rfl (fun v hv => (all6 b6 v hv).mono (by decide)) (by simp) ?_
  obtain ⟨a', b', c', d', e', f', g, q, _⟩ := low6 b6
  rw [q] at h2 ⊢
  walk_at "dx"
  refine ⟨by decide, ?_⟩
  rw [cut6a]
  walk_at "dx"
  simp only [flip6] at h2
  rcases Int.lt_trichotomy a' 0 with ha' | ha' | ha'
  · rw [if_pos (by unfold neg3; rw [decide_eq_true ha']; rfl)] at h2
    rw [decide_eq_false (show ¬ 0 < a' by omega), decide_eq_true ha']
    walk_at "dx"
    exact h2
  · subst ha'
    rw [decide_eq_false (show ¬ (0 : Int) < 0 by decide)]
    walk_at "dx"
    rcases Int.lt_trichotomy b' 0 with hb' | hb' | hb'
    · rw [if_pos (by unfold neg3; rw [decide_eq_true hb']; rfl)] at h2
      rw [decide_eq_false (show ¬ 0 < b' by omega), decide_eq_true hb']
      walk_at "dx"
      exact h2
    · subst hb'
      rw [decide_eq_false (show ¬ (0 : Int) < 0 by decide)]
      walk_at "dx"
      rcases Int.lt_trichotomy c' 0 with hc' | hc' | hc'
      · rw [if_pos (by unfold neg3; rw [decide_eq_true hc']; rfl)] at h2
        rw [decide_eq_false (show ¬ 0 < c' by omega), decide_eq_true hc']
        walk_at "dx"
        exact h2
      · subst hc'
        rw [if_neg (by decide)] at h2
        rw [decide_eq_false (show ¬ (0 : Int) < 0 by decide)]
        walk_at "dx"
        exact h2
      · rw [if_neg (by unfold neg3; rw [decide_eq_false (show ¬ c' < 0 by omega)]; decide)] at h2
        rw [decide_eq_true hc']
        walk_at "dx"
        exact h2
    · rw [if_neg (by unfold neg3; rw [decide_eq_false (show ¬ b' < 0 by omega), decide_eq_false (show ¬ b' = 0 by omega)]; exact Bool.false_ne_true)] at h2
      rw [decide_eq_true hb']
      walk_at "dx"
      exact h2
  · rw [if_neg (by unfold neg3; rw [decide_eq_false (show ¬ a' < 0 by omega), decide_eq_false (show ¬ a' = 0 by omega)]; exact Bool.false_ne_true)] at h2
    rw [decide_eq_true ha']
    walk_at "dx"
    exact h2
theorem sp_l_line_mk {a b : D} {p0 p1 p2 p3 q0 q1 q2 q3 : Int} {n : Nat} (ha : V4 T a p0 p1 p2 p3) (hb : V4 T b q0 q1 q2 q3) (bp : B4 n p0 p1 p2 p3) (bq : B4 n q0 q1 q2 q3) (hn : n ≤ 2000)
    (h : P (.tup ((flip6 (lowZ [q0 * p3 - p0 * q3, q1 * p3 - p1 * q3, q2 * p3 - p2 * q3, p1 * q2 - p2 * q1, p2 * q0 - p0 * q2, p0 * q1 - p1 * q0])).map .int)) T) : sp_l_line [a, b] T P X := lock_at ⟨_, _, _, _, _, _, _, _, n, ha, hb, bp, bq, hn, h⟩
def onl (a b c d e f p0 p1 p2 p3 : Int) : Bool := decide ([p1 * c - p2 * b, p2 * a - p0 * c, p0 * b - p1 * a] = [p3 * d, p3 * e, p3 * f])
noncomputable def sp_on_line : DSp := lock <| sp2 fun l p T P _ => ∃ a b c d e f p0 p1 p2 p3 n, l = d6 a b c d e f ∧ V4 T p p0 p1 p2 p3 ∧ B6 n a b c d e f ∧ B4 n p0 p1 p2 p3 ∧ n ≤ 20000 ∧ P (.bl (onl a b c d e f p0 p1 p2 p3)) T
def d_on_line : DS := (dSeq (dAsg (dCall sp_cross (dCons (dVar 1) (dCons (dVar 0) dNil))) 2) (dSeq (dAsg (dIx (dVar 1) (dC (.int 3))) 3) (dRet (dEq (dVar 2) (dTup (dCons (dMul (dVar 3) (dIx (dVar 0) (dC (.int 3)))) (dCons (dMul (dVar 3) (dIx (dVar 0) (dC (.int 4)))) (dCons (dMul (dVar 3) (dIx (dVar 0) (dC (.int 5)))) dNil))))))))
noncomputable def sp_l_holds : DSp := lock <| sp2 fun l p T P _ => ∃ a b c d e f p0 p1 p2 p3 n, l = d6 a b c d e f ∧ V4 T p p0 p1 p2 p3 ∧ B6 n a b c d e f ∧ B4 n p0 p1 p2 p3 ∧ n ≤ 20000 ∧ P (.bl (onl a b c d e f p0 p1 p2 p3)) T
def d_l_holds : DS := (dRet (dEq (dCall sp_l_cross (dCons (dVar 1) (dCons (dVar 0) dNil))) (dLc 2 (dSl (dVar 0) (dSomeO (dC (.int 3))) dNoO) (dMul (dIx (dVar 1) (dC (.int 3))) (dVar 2)))))
/-- two unlike points -/
noncomputable def sp_l_two : DSp := lock <| sp1 fun a T P _ => ∃ r, a = .ptr r ∧ T r = some .row ∧ ∀ p0 p1 p2 p3 q0 q1 q2 q3 : Int, IsPt 60 p0 p1 p2 p3 → IsPt 60 q0 q1 q2 q3 → [p0, p1, p2, p3] ≠ [q0, q1, q2, q3] → P (.lst [.tup [.int p0, .int p1, .int p2, .int p3], .tup [.int q0, .int q1, .int q2, .int q3]]) T
def d_l_two_b : DS := (dSeq (dAsg (dLstM (dCons (dC (.int 0)) (dCons (dC (.int 0)) (dCons (dC (.int 0)) dNil)))) 3) (dSeq (dAsgG (dIx (dLst (dCons (dC (.int 1)) (dCons (dNeg (dC (.int 1))) (dCons (dC (.int 7)) dNil)))) (dCall sp_l_take (dCons (dVar 0) (dCons (dC (.int 3)) dNil)))) (dgSub (dVar 3) (dCall sp_l_take (dCons (dVar 0) (dCons (dC (.int 3)) dNil))))) (dSeq (dAsg (dLcR 5 (dCons (dC (.int 3)) dNil) (dAdd (dIx (dVar 1) (dVar 5)) (dMul (dIx (dVar 3) (dVar 5)) (dIx (dVar 1) (dC (.int 3)))))) 4) (dAsg (dCall sp_l_lowest (dCons (dAdd (dVar 4) (dLst (dCons (dIx (dVar 1) (dC (.int 3))) dNil))) dNil)) 2))))
def d_l_two : DS := (dSeq (dAsg (dCall sp_l_free (dCons (dVar 0) dNil)) 1) (dSeq (dAsg (dCall sp_l_free (dCons (dVar 0) dNil)) 2) (dSeq (dIf (dtOr (dTst (dEq (dCall sp_l_take (dCons (dVar 0) (dCons (dC (.int 4)) dNil))) (dC (.int 0)))) (dTst (dEq (dVar 2) (dVar 1)))) d_l_two_b dNext) (dRet (dLst (dCons (dVar 1) (dCons (dVar 2) dNil)))))))
theorem two_step {p0 p1 p2 p3 s0 s1 s2 : Int} (hp : IsPt 45 p0 p1 p2 p3) (h : s0 ≠ 0 ∨ s1 ≠ 0 ∨ s2 ≠ 0) (b0 : Bd 4 s0) (b1 : Bd 4 s1) (b2 : Bd 4 s2) : ∃ q0 q1 q2 q3, lowZ [p0 + s0 * p3, p1 + s1 * p3, p2 + s2 * p3, p3] = [q0, q1, q2, q3] ∧ IsPt 60 q0 q1 q2 q3 ∧ [p0, p1, p2, p3] ≠ [q0, q1, q2, q3] := by
  obtain ⟨pa, pb, pc, pd⟩ := hp.2.2
  obtain ⟨q0, q1, q2, q3, g, e, g0, f1, f2, f3, f4, i⟩ := low4 (n := 60) (x := p0 + s0 * p3) (y := p1 + s1 * p3) (z := p2 + s2 * p3) (w := p3) hp.1 ⟨by walk_at "bt", by walk_at "bt", by walk_at "bt", by walk_at "bt"⟩
  refine ⟨q0, q1, q2, q3, e, i, fun z => ?_⟩
  simp only [List.cons.injEq, and_true] at z
  obtain ⟨rfl, rfl, rfl, rfl⟩ := z
  have g1 : g = 1 := by
    have z : (g - 1) * p3 = 0 := by rw [Int.sub_mul]; omega
    rcases Int.mul_eq_zero.mp z with z | z
    · omega
    · have := hp.1; omega
  subst g1
  have p0 := hp.1
  have k : ∀ s : Int, s ≠ 0 → s * p3 ≠ 0 := fun s hs z => by
    rcases Int.mul_eq_zero.mp z with z | z
    · exact hs z
    · omega
  rcases h with h | h | h
  · exact k _ h (by omega)
  · exact k _ h (by omega)
  · exact k _ h (by omega)
theorem updT_off {p q : Addr} {T : Sto} {m : MO} (hp : T p = none) {a : MO} (h : T q = some a) : updT T p m q = some a := by
  rw [updT_ne (fun z => by subst z; rw [hp] at h; cases h)]; exact h
theorem two_b {E : DX} {r : Addr} {q : Option D} {p0 p1 p2 p3 : Int} (hr : T r = some .row) (hp : IsPt 45 p0 p1 p2 p3)
    (h : ∀ (a : Addr) (m : MO) (x : D) (q0 q1 q2 q3 : Int), T a = none → IsPt 60 q0 q1 q2 q3 → [p0, p1, p2, p3] ≠ [q0, q1, q2, q3] → E.nx [some (.ptr r), some (.tup [.int p0, .int p1, .int p2, .int p3]), some (.tup [.int q0, .int q1, .int q2, .int q3]), some (.ptr a), some x, none] (updT T a m)) :
    d_l_two_b E [some (.ptr r), some (.tup [.int p0, .int p1, .int p2, .int p3]), q, none, none, none] T := by
  unfold d_l_two_b
  walk_at "dx"
  intro a ta
  have hr' : ∀ m, updT T a m r = some .row := fun m => updT_off ta hr
  refine sp_take_mk (hr' _) (by decide) (Bd.lit (by decide)) fun k k0 k1 => ?_
  refine pick (R := fun d => ∃ i, d = .int i ∧ i ≠ 0 ∧ Bd 4 i) k0 k1 (fun d hd => ?_) fun d ⟨s, es, s0, s1⟩ => ?_
  · simp only [List.mem_cons, List.not_mem_nil, or_false] at hd
    rcases hd with rfl | rfl | rfl <;> exact ⟨_, rfl, by decide, Bd.lit (by decide)⟩
  subst es
  refine sp_take_mk (hr' _) (by decide) (Bd.lit (by decide)) fun j j0 j1 => ?_
  obtain ⟨pa, pb, pc, pd⟩ := hp.2.2
  have z4 : Bd 4 0 := Bd.lit (by decide)
  rcases lt3 j0 j1 with rfl | rfl | rfl
  · walk_at "dx"
    refine ⟨⟨by decide, by decide⟩, ?_⟩
    walk_at "mos"
    obtain ⟨q0, q1, q2, q3, e, hq, ne⟩ := two_step (s0 := s) (s1 := 0) (s2 := 0) hp (.inl s0) s1 z4 z4
    refine sp_l_lowest_mk (ns := [p0 + s * p3, p1 + 0 * p3, p2 + 0 * p3, p3]) rfl (all4 ⟨by walk_at "bt", by walk_at "bt", by walk_at "bt", by walk_at "bt"⟩) (by simp) ?_
    rw [e]
    exact h _ _ _ _ _ _ _ ta hq ne
  · walk_at "dx"
    refine ⟨⟨by decide, by decide⟩, ?_⟩
    walk_at "mos"
    obtain ⟨q0, q1, q2, q3, e, hq, ne⟩ := two_step (s0 := 0) (s1 := s) (s2 := 0) hp (.inr (.inl s0)) z4 s1 z4
    refine sp_l_lowest_mk (ns := [p0 + 0 * p3, p1 + s * p3, p2 + 0 * p3, p3]) rfl (all4 ⟨by walk_at "bt", by walk_at "bt", by walk_at "bt", by walk_at "bt"⟩) (by simp) ?_
    rw [e]
    exact h _ _ _ _ _ _ _ ta hq ne
  · walk_at "dx"
    refine ⟨⟨by decide, by decide⟩, ?_⟩
    walk_at "mos"
    obtain ⟨q0, q1, q2, q3, e, hq, ne⟩ := two_step (s0 := 0) (s1 := 0) (s2 := s) hp (.inr (.inr s0)) z4 z4 s1
    refine sp_l_lowest_mk (ns := [p0 + 0 * p3, p1 + 0 * p3, p2 + s * p3, p3]) rfl (all4 ⟨by walk_at "bt", by walk_at "bt", by walk_at "bt", by walk_at "bt"⟩) (by simp) ?_
    rw [e]
    exact h _ _ _ _ _ _ _ ta hq ne
theorem pure_l_two {K : PySem.W.Frag} {N : List Str} (hN : N.length = 6) : ∀ us T P X, sp_l_two us T P X → d_l_two (dend K P X) (startD N us) T := by
  intro us T P X h
  obtain ⟨a, rfl, h1⟩ := sp1.of (lock_of h)
  obtain ⟨r, rfl, hr, h2⟩ := h1
  have e : startD N [D.ptr r] = [some (.ptr r), none, none, none, none, none] := by unfold startD; rw [hN]; rfl
  rw [e]
  unfold d_l_two
  walk_at "dx"
  refine sp_l_free_mk hr fun p0 p1 p2 p3 hp => ?_
  refine sp_l_free_mk hr fun q0 q1 q2 q3 hq => ?_
  walk_at "dx"
  refine sp_take_mk hr (by decide) (Bd.lit (by decide)) fun k k0 k1 => ?_
  walk_at "dx"
  simp only [eqOk_t4, eqv_t4]
  walk_at "dx"
  split
  · refine two_b hr hp fun a m x q0 q1 q2 q3 ta hq ne => ?_
    walk_at "dx"
    refine ⟨_, T, Wk.drop fun b m e => ?_, h2 _ _ _ _ _ _ _ _ (hp.mono (by decide)) hq ne⟩
    rw [updT_ne (fun z => by subst z; rw [ta] at e; cases e)]
    exact e
  · split
    · refine two_b hr hp fun a m x q0 q1 q2 q3 ta hq ne => ?_
      walk_at "dx"
      refine ⟨_, T, Wk.drop fun b m e => ?_, h2 _ _ _ _ _ _ _ _ (hp.mono (by decide)) hq ne⟩
      rw [updT_ne (fun z => by subst z; rw [ta] at e; cases e)]
      exact e
    · rename_i hne
      refine ⟨_, T, Wk.drop fun b m e => e, h2 _ _ _ _ _ _ _ _ (hp.mono (by decide)) (hq.mono (by decide)) fun z => hne ?_⟩
      rw [z, decide_eq_true rfl]
theorem sp_l_two_mk {r : Addr} (hr : T r = some .row) (h : ∀ p0 p1 p2 p3 q0 q1 q2 q3 : Int, IsPt 60 p0 p1 p2 p3 → IsPt 60 q0 q1 q2 q3 → [p0, p1, p2, p3] ≠ [q0, q1, q2, q3] → P (.lst [.tup [.int p0, .int p1, .int p2, .int p3], .tup [.int q0, .int q1, .int q2, .int q3]]) T) : sp_l_two [.ptr r] T P X := lock_at ⟨r, rfl, hr, h⟩
end
end SY

namespace SY
open PySem PySem.Spec PyProof.Rows L2
/-- the last number above 0, in lowest terms -/
def sgZ (ns : List Int) : List Int := if ns.getLastD 0 < 0 then lowZ (ns.map (-·)) else lowZ ns
theorem B2.mono {m n : Nat} {x y : Int} (h : B2 m x y) (l : m ≤ n) : B2 n x y := ⟨h.1.mono l, h.2.mono l⟩
section
variable {T : Sto} {P : D → Sto → Prop} {X : Xc → Sto → Prop}
/-- fraction -/
noncomputable def sp_fraction : DSp := lock <| sp2 fun a b T P X => int2 a b fun t b => if b = 0 then X "BottomNought" T else B2 8000 t b ∧ P (.tup ((sgZ [t, b]).map .int)) T
def d_fraction : DS := (dSeq (dIf (dTst (dEq (dVar 1) (dC (.int 0)))) (dRaise "BottomNought") dNext) (dSeq (dIf (dTst (dLt (dVar 1) (dC (.int 0)))) (dSeq (dAsg (dNeg (dVar 0)) 0) (dAsg (dNeg (dVar 1)) 1)) dNext) (dRet (dCall sp_lowest (dCons (dTup (dCons (dVar 0) (dCons (dVar 1) dNil))) dNil)))))
/-- the law's factor -/
noncomputable def sp_l_factor : DSp := lock <| sp1 fun a T P _ => ∃ r, a = .ptr r ∧ T r = some .row ∧ ∀ k : Int, k ≠ 0 → Bd 12 k → P (.int k) T
def d_l_factor : DS := (dSeq (dAsg (dAdd (dC (.int 1)) (dCall sp_l_take (dCons (dVar 0) (dCons (dC (.int 1000)) dNil)))) 1) (dSeq (dIf (dTst (dEq (dCall sp_l_take (dCons (dVar 0) (dCons (dC (.int 2)) dNil))) (dC (.int 1)))) (dRet (dNeg (dVar 1))) dNext) (dRet (dVar 1))))
/-- the law's signed numbers -/
noncomputable def sp_l_signed : DSp := lock <| sp1 fun a T P _ => ∃ ns : List Int, frozen a = some (ns.map .int) ∧ ns ≠ [] ∧ (∀ n ∈ ns, Bd 8000 n) ∧ ns.length ≤ 1000 ∧ P (.tup ((sgZ ns).map .int)) T
def d_l_signed : DS := (dSeq (dIf (dTst (dLt (dIx (dVar 0) (dNeg (dC (.int 1)))) (dC (.int 0)))) (dRet (dCall sp_l_lowest (dCons (dLc 1 (dVar 0) (dNeg (dVar 1))) dNil))) dNext) (dRet (dCall sp_l_lowest (dCons (dVar 0) dNil))))
/-- plus, minus, times, divided -/
noncomputable def sp_plus : DSp := lock <| sp2 fun a b T P _ => ∃ t b' u v n, V2 T a t b' ∧ V2 T b u v ∧ b' ≠ 0 ∧ v ≠ 0 ∧ B2 n t b' ∧ B2 n u v ∧ n ≤ 3900 ∧ P (.tup ((sgZ [t * v + u * b', b' * v]).map .int)) T
noncomputable def sp_minus : DSp := lock <| sp2 fun a b T P _ => ∃ t b' u v n, V2 T a t b' ∧ V2 T b u v ∧ b' ≠ 0 ∧ v ≠ 0 ∧ B2 n t b' ∧ B2 n u v ∧ n ≤ 3900 ∧ P (.tup ((sgZ [t * v - u * b', b' * v]).map .int)) T
noncomputable def sp_times : DSp := lock <| sp2 fun a b T P _ => ∃ t b' u v n, V2 T a t b' ∧ V2 T b u v ∧ b' ≠ 0 ∧ v ≠ 0 ∧ B2 n t b' ∧ B2 n u v ∧ n ≤ 3900 ∧ P (.tup ((sgZ [t * u, b' * v]).map .int)) T
noncomputable def sp_divided : DSp := lock <| sp2 fun a b T P X => ∃ t b' u v n, V2 T a t b' ∧ V2 T b u v ∧ b' ≠ 0 ∧ v ≠ 0 ∧ B2 n t b' ∧ B2 n u v ∧ n ≤ 3900 ∧ if u = 0 then X "BottomNought" T else P (.tup ((sgZ [t * v, b' * u]).map .int)) T
def d_plus : DS := (dRet (dCall sp_fraction (dCons (dAdd (dMul (dIx (dVar 0) (dC (.int 0))) (dIx (dVar 1) (dC (.int 1)))) (dMul (dIx (dVar 1) (dC (.int 0))) (dIx (dVar 0) (dC (.int 1))))) (dCons (dMul (dIx (dVar 0) (dC (.int 1))) (dIx (dVar 1) (dC (.int 1)))) dNil))))
def d_minus : DS := (dRet (dCall sp_fraction (dCons (dSub (dMul (dIx (dVar 0) (dC (.int 0))) (dIx (dVar 1) (dC (.int 1)))) (dMul (dIx (dVar 1) (dC (.int 0))) (dIx (dVar 0) (dC (.int 1))))) (dCons (dMul (dIx (dVar 0) (dC (.int 1))) (dIx (dVar 1) (dC (.int 1)))) dNil))))
def d_times : DS := (dRet (dCall sp_fraction (dCons (dMul (dIx (dVar 0) (dC (.int 0))) (dIx (dVar 1) (dC (.int 0)))) (dCons (dMul (dIx (dVar 0) (dC (.int 1))) (dIx (dVar 1) (dC (.int 1)))) dNil))))
def d_divided : DS := (dRet (dCall sp_fraction (dCons (dMul (dIx (dVar 0) (dC (.int 0))) (dIx (dVar 1) (dC (.int 1)))) (dCons (dMul (dIx (dVar 0) (dC (.int 1))) (dIx (dVar 1) (dC (.int 0)))) dNil))))
end
end SY

namespace SY
open PySem PySem.Spec PyProof.Rows L2
/-! ### lines in their one form -/
theorem flip_low {n : Nat} {a b c d e f : Int} (h : B6 n a b c d e f) : ∃ a' b' c' d' e' f' g, flip6 (lowZ [a, b, c, d, e, f]) = [a', b', c', d', e', f'] ∧ g ≠ 0 ∧ a = g * a' ∧ b = g * b' ∧ c = g * c' ∧ d = g * d' ∧ e = g * e' ∧ f = g * f' ∧ B6 n a' b' c' d' e' f' := by
  obtain ⟨a', b', c', d', e', f', g, q, g0, h1, h2, h3, h4, h5, h6, hb, _⟩ := low6 h
  rw [q]
  unfold flip6
  by_cases hn : neg3 a' b' c' = true
  · simp only [if_pos hn]
    refine ⟨_, _, _, _, _, _, -g, rfl, by omega, by rw [h1]; grind, by rw [h2]; grind, by rw [h3]; grind, by rw [h4]; grind, by rw [h5]; grind, by rw [h6]; grind, ⟨⟨hb.1.1.neg, hb.1.2.1.neg, hb.1.2.2.neg⟩, hb.2.1.neg, hb.2.2.1.neg, hb.2.2.2.neg⟩⟩
  · simp only [if_neg hn]
    exact ⟨_, _, _, _, _, _, g, rfl, by omega, h1, h2, h3, h4, h5, h6, hb⟩
end SY

namespace SY
open PySem PySem.Spec PyProof.Rows L2
/-! ### the reading, step by step: what stands behind a step is not looked at before its turn -/
/-- a token that fixes what stands behind a step -/
def Tk {α : Sort u} (_ : α) : Type := Unit
def tk {α : Sort u} (k : α) : Tk k := ()
section
variable {P : D → Sto → Prop} {X : Xc → Sto → Prop} {T T' : Sto} {ρ ρ' : Env} {E : DX}
def someZ (o : Option D) (k : D → Prop) (_ : Tk k := tk k) : Prop := someOf o k
theorem someOf_z {o : Option D} {k : D → Prop} : someOf o k = someZ o k := (rfl)
theorem someZ_s {d : D} {k : D → Prop} : someZ (some d) k = k d := (rfl)
def int1Z (x : D) (k : Int → Prop) (_ : Tk k := tk k) : Prop := int1 x k
theorem int1_z {x : D} {k : Int → Prop} : int1 x k = int1Z x k := (rfl)
theorem int1Z_s {i : Int} {k : Int → Prop} : int1Z (.int i) k = k i := (rfl)
def int2Z (x y : D) (k : Int → Int → Prop) (_ : Tk k := tk k) : Prop := int2 x y k
theorem int2_z {x y : D} {k : Int → Int → Prop} : int2 x y k = int2Z x y k := (rfl)
theorem int2Z_s {i j : Int} {k : Int → Int → Prop} : int2Z (.int i) (.int j) k = k i j := (rfl)
def bl1Z (x : D) (k : Bool → Prop) (_ : Tk k := tk k) : Prop := bl1 x k
theorem bl1_z {x : D} {k : Bool → Prop} : bl1 x k = bl1Z x k := (rfl)
theorem bl1Z_s {b : Bool} {k : Bool → Prop} : bl1Z (.bl b) k = k b := (rfl)
def optZ {α : Type} (o : Option α) (k : α → Prop) (_ : Tk k := tk k) : Prop := optK o k
theorem optK_z {α : Type} {o : Option α} {k : α → Prop} : optK o k = optZ o k := (rfl)
theorem optZ_s {α : Type} {a : α} {k : α → Prop} : optZ (some a) k = k a := (rfl)
theorem seqK_z {x : D} {k : List D → Prop} : seqK x T k = optZ (seqOf T x) k := by unfold seqK optZ optK; cases seqOf T x <;> rfl
theorem ixD_z {x y : D} : ixD x y T P = optZ (seqOf T x) fun ds => int1Z y fun i => someZ (atI ds i) fun d => P d T := by
  unfold ixD optZ optK
  cases seqOf T x with
  | none => rfl
  | some ds => cases y <;> rfl
def addZ (x y : D) (T : Sto) (P : D → Sto → Prop) (_ : Tk P := tk P) : Prop := addD x y T P
theorem addD_z {x y : D} : addD x y T P = addZ x y T P := (rfl)
theorem addZ_i {i j : Int} : addZ (.int i) (.int j) T P = P (.int (i + j)) T := (rfl)
theorem addZ_s {i j : Str} : addZ (.str i) (.str j) T P = (i.length + j.length ≤ 1000000 ∧ P (.str (i ++ j)) T) := (rfl)
theorem addZ_t {xs ys : List D} : addZ (.tup xs) (.tup ys) T P = ((xs ≠ [] ∧ ys ≠ [] ∧ xs.length + ys.length ≤ 1000000) ∧ P (.tup (xs ++ ys)) T) := (rfl)
theorem addL_z {x y : D} : addL x y T P = optZ (plst T x) fun xs => optZ (plst T y) fun ys => xs.length + ys.length ≤ 1000000 ∧ P (.lst (xs ++ ys)) T := by
  unfold addL optZ optK
  cases plst T x with
  | none => rfl
  | some xs => cases plst T y <;> rfl
theorem addZ_l {xs : List D} {y : D} : addZ (.lst xs) y T P = optZ (plst T y) fun ys => xs.length + ys.length ≤ 1000000 ∧ P (.lst (xs ++ ys)) T := by
  show addL (.lst xs) y T P = _
  rw [addL_z]; rfl
theorem addZ_p {a : Addr} {y : D} : addZ (.ptr a) y T P = optZ (mlst (T a)) fun xs => optZ (plst T y) fun ys => xs.length + ys.length ≤ 1000000 ∧ P (.lst (xs ++ ys)) T := by
  show addL (.ptr a) y T P = _
  rw [addL_z]; rfl
def lenZ (x : D) (T : Sto) (P : D → Sto → Prop) (_ : Tk P := tk P) : Prop := lenD x T P
theorem lenD_z {x : D} : lenD x T P = lenZ x T P := (rfl)
theorem lenZ_t {ds : List D} : lenZ (.tup ds) T P = P (.int (ds.length : Int)) T := (rfl)
theorem lenZ_l {ds : List D} : lenZ (.lst ds) T P = P (.int (ds.length : Int)) T := (rfl)
theorem lenZ_s {s : Str} : lenZ (.str s) T P = (s.length ≤ sizeLine ∧ P (.int (s.length : Int)) T) := (rfl)
theorem lenZ_p {a : Addr} : lenZ (.ptr a) T P = optZ (mlst (T a)) fun ds => P (.int (ds.length : Int)) T := by
  unfold lenZ lenD optZ optK
  show (match mlst (T a) with | some ds => P (.int (ds.length : Int)) T | none => _) = _
  cases mlst (T a) <;> rfl
def slZ (x : D) (lo hi : Option Int) (T : Sto) (P : D → Sto → Prop) (_ : Tk P := tk P) : Prop := slD x lo hi T P
theorem slD_z {x : D} {lo hi : Option Int} : slD x lo hi T P = slZ x lo hi T P := (rfl)
theorem slZ_t {ds : List D} {lo hi : Option Int} : slZ (.tup ds) lo hi T P = (¬ (HT.sIx ds.length 0 lo = 0 ∧ HT.sIx ds.length ds.length hi = ds.length) ∧ P (.tup (cutD ds lo hi)) T) := (rfl)
theorem slZ_l {ds : List D} {lo hi : Option Int} : slZ (.lst ds) lo hi T P = P (.lst (cutD ds lo hi)) T := (rfl)
theorem slZ_s {ns : List Int} {lo hi : Option Int} : slZ (.scr ns) lo hi T P = P (.lst (cutD (ns.map .int) lo hi)) T := (rfl)
theorem slZ_p {a : Addr} {lo hi : Option Int} : slZ (.ptr a) lo hi T P = optZ (mlst (T a)) fun ds => P (.lst (cutD ds lo hi)) T := (rfl)
def setZ (o i d : D) (T : Sto) (k : Sto → Prop) (_ : Tk k := tk k) : Prop := setD o i d T k
theorem setD_z {o i d : D} {k : Sto → Prop} : setD o i d T k = setZ o i d T k := (rfl)
theorem setZ_s {a : Addr} {z : Int} {d : D} {k : Sto → Prop} : setZ (.ptr a) (.int z) d T k = optZ (mlst (T a)) fun ds => optZ (ixN ds.length z) fun j => k (updT T a (.lst (ds.set j d))) := (rfl)
def appZ (o d : D) (T : Sto) (P : D → Sto → Prop) (_ : Tk P := tk P) : Prop := appD o d T P
theorem appD_z {o d : D} : appD o d T P = appZ o d T P := (rfl)
theorem appZ_s {a : Addr} {d : D} : appZ (.ptr a) d T P = optZ (mlst (T a)) fun ds => ds.length < 1000000 ∧ P .non (updT T a (.lst (ds ++ [d]))) := (rfl)
def popZ (o i : D) (T : Sto) (P : D → Sto → Prop) (_ : Tk P := tk P) : Prop := popD o i T P
theorem popD_z {o i : D} : popD o i T P = popZ o i T P := (rfl)
theorem popZ_s {a : Addr} {z : Int} : popZ (.ptr a) (.int z) T P = ((-(2 ^ 63) ≤ z ∧ z < 2 ^ 63) ∧ optZ (mlst (T a)) fun ds => optZ (seqIndex? z ds.length) fun j => someZ ds[j]? fun d => P d (updT T a (.lst (ds.eraseIdx j)))) := (rfl)
def dgsZ (ds : List D) (k : D → List D → Prop) (_ : Tk k := tk k) : Prop := dgsK ds k
theorem dgsK_z {ds : List D} {k : D → List D → Prop} : dgsK ds k = dgsZ ds k := (rfl)
theorem dgsZ_s {d : D} {ds : List D} {k : D → List D → Prop} : dgsZ (d :: ds) k = k d ds := (rfl)
theorem nilK_s {k : Prop} : nilK [] k = k := (rfl)
def oneZ (ds : List D) (k : D → Prop) (_ : Tk k := tk k) : Prop := one ds k
theorem one_z {ds : List D} {k : D → Prop} : one ds k = oneZ ds k := (rfl)
theorem oneZ_s {d : D} {k : D → Prop} : oneZ [d] k = k d := (rfl)
def twoZ (ds : List D) (k : D → D → Prop) (_ : Tk k := tk k) : Prop := two ds k
theorem two_z {ds : List D} {k : D → D → Prop} : two ds k = twoZ ds k := (rfl)
theorem twoZ_s {d e : D} {k : D → D → Prop} : twoZ [d, e] k = k d e := (rfl)
def intZ (x : D) (k : Int → Prop) (_ : Tk k := tk k) : Prop := intK x k
theorem intK_z {x : D} {k : Int → Prop} : intK x k = intZ x k := (rfl)
theorem intZ_i {i : Int} {k : Int → Prop} : intZ (.int i) k = k i := (rfl)
theorem intZ_b {b : Bool} {k : Int → Prop} : intZ (.bl b) k = k (if b then 1 else 0) := (rfl)
def rng1Z (ds : List D) (k : List D → Prop) (_ : Tk k := tk k) : Prop := rng1 ds k
theorem rng1_z {ds : List D} {k : List D → Prop} : rng1 ds k = rng1Z ds k := (rfl)
theorem rng1Z_s {n : Int} {k : List D → Prop} : rng1Z [.int n] k = (Rg1 n ∧ k (rngL 0 n.toNat)) := (rfl)
def rng2Z (ds : List D) (k : List D → Prop) (_ : Tk k := tk k) : Prop := rng2 ds k
theorem rng2_z {ds : List D} {k : List D → Prop} : rng2 ds k = rng2Z ds k := (rfl)
theorem rng2Z_s {m n : Int} {k : List D → Prop} : rng2Z [.int m, .int n] k = (Rg2 m n ∧ k (rngL m (n - m).toNat)) := (rfl)
def frzZ (o : Option D) (T : Sto) (k0 : Prop) (k : D → Sto → Prop) (_ : Tk k := tk k) : Prop := frzK o T k0 k
theorem frzK_z {o : Option D} {k0 : Prop} {k : D → Sto → Prop} : frzK o T k0 k = frzZ o T k0 k := (rfl)
theorem frzZ_p {a : Addr} {k0 : Prop} {k : D → Sto → Prop} : frzZ (some (.ptr a)) T k0 k = optZ (mlst (T a)) fun ds => k (.lst ds) (offT T a) := (rfl)
theorem frzZ_l {ds : List D} {k0 : Prop} {k : D → Sto → Prop} : frzZ (some (.lst ds)) T k0 k = k0 := (rfl)
theorem frzZ_t {ds : List D} {k0 : Prop} {k : D → Sto → Prop} : frzZ (some (.tup ds)) T k0 k = k0 := (rfl)
def forZ (dg : DG) (db : DS) (E : DX) (ds : List D) (ρ : Env) (T : Sto) (_ : Tk E := tk E) : Prop := forL dg db E ds ρ T
theorem forL_z {dg : DG} {db : DS} {ds : List D} : forL dg db E ds ρ T = forZ dg db E ds ρ T := (rfl)
def DX.lp (E : DX) (dg : DG) (db : DS) (ds : List D) : DX := { E with nx := forL dg db E ds, ct := forL dg db E ds, bk := E.nx }
theorem forZ_nil {dg : DG} {db : DS} : forZ dg db E [] ρ T = E.nx ρ T := (rfl)
theorem forZ_cons {dg : DG} {db : DS} {d : D} {ds : List D} : forZ dg db E (d :: ds) ρ T = dg d ρ T (fun ρ1 T1 => db (E.lp dg db ds) ρ1 T1) (fun x T1 => E.ex x ρ T1) := (rfl)
def lcZ (j : Nat) (de : DE) (ρ : Env) (k : List D → Sto → Prop) (ds acc : List D) (T : Sto) (_ : Tk k := tk k) : Prop := lcL j de ρ k ds acc T
theorem lcL_z {j : Nat} {de : DE} {k : List D → Sto → Prop} {ds acc : List D} : lcL j de ρ k ds acc T = lcZ j de ρ k ds acc T := (rfl)
theorem lcZ_nil {j : Nat} {de : DE} {k : List D → Sto → Prop} {acc : List D} : lcZ j de ρ k [] acc T = k acc T := (rfl)
theorem lcZ_cons {j : Nat} {de : DE} {k : List D → Sto → Prop} {d : D} {ds acc : List D} : lcZ j de ρ k (d :: ds) acc T = de (ρ.set j (some d)) T (fun y T1 => lcZ j de ρ k ds (acc ++ [y]) T1) (fun _ _ => False) := (rfl)
/-- what comes next -/
def DX.sq (E : DX) (t : DS) : DX := { E with nx := fun ρ T => t E ρ T }
def goZ (t : DS) (E : DX) (ρ : Env) (T : Sto) (_ : Tk E := tk E) : Prop := t E ρ T
theorem goZ_s {t : DS} : goZ t E ρ T = t E ρ T := (rfl)
theorem dSeq_z {s t : DS} : dSeq s t E ρ T = s (E.sq t) ρ T := (rfl)
theorem ixN_21 : ixN 2 1 = some 1 := (rfl)
theorem ixN_31 : ixN 3 1 = some 1 := (rfl)
theorem ixN_32 : ixN 3 2 = some 2 := (rfl)
theorem ixN_41 : ixN 4 1 = some 1 := (rfl)
theorem ixN_42 : ixN 4 2 = some 2 := (rfl)
theorem ixN_43 : ixN 4 3 = some 3 := (rfl)
/-- a call, where the reading stops -/
def Cz (sp : DSp) (us : List D) (T : Sto) (P : D → Sto → Prop) (X : Xc → Sto → Prop) (_ : Tk P := tk P) (_ : Tk X := tk X) : Prop := sp us T P X
theorem dCall_z {sp : DSp} {a : DA} : dCall sp a ρ T P X = a ρ T (fun us T1 => Cz sp us T1 P X) X := (rfl)
theorem sq_nx {t : DS} : (E.sq t).nx ρ T = goZ t E ρ T := (rfl)
theorem sq_rt {t : DS} : (E.sq t).rt = E.rt := (rfl)
theorem sq_bk {t : DS} : (E.sq t).bk = E.bk := (rfl)
theorem sq_ct {t : DS} : (E.sq t).ct = E.ct := (rfl)
theorem sq_ex {t : DS} : (E.sq t).ex = E.ex := (rfl)
theorem lp_nx {dg : DG} {db : DS} {ds : List D} : (E.lp dg db ds).nx ρ T = forZ dg db E ds ρ T := (rfl)
theorem lp_ct {dg : DG} {db : DS} {ds : List D} : (E.lp dg db ds).ct ρ T = forZ dg db E ds ρ T := (rfl)
theorem lp_bk {dg : DG} {db : DS} {ds : List D} : (E.lp dg db ds).bk = E.nx := (rfl)
theorem lp_rt {dg : DG} {db : DS} {ds : List D} : (E.lp dg db ds).rt = E.rt := (rfl)
theorem lp_ex {dg : DG} {db : DS} {ds : List D} : (E.lp dg db ds).ex = E.ex := (rfl)
end
end SY

local macro_rules | `(tactic| walk_at "dz") => `(tactic| try simp -dsimp (maxSteps := 3000000) only [↓SY.someOf_z, ↓SY.int1_z, ↓SY.int2_z, ↓SY.bl1_z, ↓SY.optK_z, ↓SY.seqK_z, ↓SY.ixD_z, ↓SY.addD_z, ↓SY.lenD_z, ↓SY.slD_z, ↓SY.setD_z, ↓SY.appD_z, ↓SY.popD_z, ↓SY.dgsK_z, ↓SY.one_z, ↓SY.two_z, ↓SY.intK_z, ↓SY.rng1_z, ↓SY.rng2_z, ↓SY.frzK_z, ↓SY.forL_z, ↓SY.lcL_z, ↓SY.dSeq_z, SY.someZ_s, SY.int1Z_s, SY.int2Z_s, SY.bl1Z_s, SY.optZ_s, SY.addZ_i, SY.addZ_s, SY.addZ_t, SY.addZ_l, SY.addZ_p, SY.lenZ_t, SY.lenZ_l, SY.lenZ_s, SY.lenZ_p, SY.slZ_t, SY.slZ_l, SY.slZ_s, SY.slZ_p, SY.setZ_s, SY.appZ_s, SY.popZ_s, SY.dgsZ_s, SY.nilK_s, SY.oneZ_s, SY.twoZ_s, SY.intZ_i, SY.intZ_b, SY.rng1Z_s, SY.rng2Z_s, SY.frzZ_p, SY.frzZ_l, SY.frzZ_t, SY.forZ_nil, SY.forZ_cons, SY.lcZ_nil, SY.lcZ_cons, SY.goZ_s, ↓SY.sq_nx, ↓SY.sq_rt, ↓SY.sq_bk, ↓SY.sq_ct, ↓SY.sq_ex, ↓SY.lp_nx, ↓SY.lp_ct, ↓SY.lp_bk, ↓SY.lp_rt, ↓SY.lp_ex, SY.dAsg, SY.dRet, SY.dRetN, SY.dNext, SY.dIf, SY.dTst, SY.dC, SY.dVar, SY.dI, SY.dI0, SY.dMul, SY.dDiv, SY.dMod, SY.dPow, SY.dSub, SY.dLt, SY.dLe, SY.dGt, SY.dGe, SY.dNeg, SY.dAdd, SY.dIx, SY.dNil, SY.dCons, SY.dTup, SY.dLst, SY.dLstM, ↓SY.dCall_z, SY.dAbs, SY.dLen, SY.dTuple, SY.dList, SY.dListM, SY.dEq, SY.dNe, SY.dIsN, SY.dNotN, SY.dIsB, SY.dNotB, SY.dFrz, SY.dRaise, SY.dTryAs, SY.dTryOnly, SY.dIsE, SY.dtAnd, SY.dtOr, SY.dtNot, SY.dAnd, SY.dOr, SY.dNot, SY.dIsi, SY.dAll, SY.dSum, SY.dInt, SY.dSl, SY.dNoO, SY.dSomeO, SY.dDrop, SY.dAug, SY.dPar, SY.dAsgG, SY.dgName, SY.dgTup, SY.dgsNil, SY.dgsName, SY.dgSub, SY.dApp, SY.dPopAt, SY.dFor, SY.dForR1, SY.dForR2, SY.dForE, SY.dLc, SY.dLcR, SY.dLcRM, SY.rngL, SY.enumL, SY.frozen_tup, SY.frozen_lst, SY.frozen_scr, SY.frozL_lst, SY.frozL_scr, SY.seqOf_tup, SY.seqOf_lst, SY.seqOf_scr, SY.seqOf_ptr, SY.seqOf_int, SY.seqOf_str, SY.lstOf_lst, SY.lstOf_scr, SY.lstOf_ptr, SY.mlst_lst, SY.plst_lst, SY.plst_ptr, SY.isPtrL, SY.tyN, SY.isNon, SY.blsOf, SY.intsOf, SY.dend0, SY.dend, SY.startD, SY.eqOk_int, SY.eqv_int, SY.atI0, SY.atI1, SY.atI2, SY.atI3, SY.atI4, SY.atI5, SY.ixN0, decide_true, decide_false, Int.reduceEq, Int.reduceLT, Int.reduceLE, SY.ixN_21, SY.ixN_31, SY.ixN_32, SY.ixN_41, SY.ixN_42, SY.ixN_43, SY.seqIx0, SY.updT_same, SY.updT_updT, List.map_cons, List.map_nil, List.length_cons, List.length_nil, List.replicate, List.cons_append, List.nil_append, List.getD_cons_zero, List.getD_cons_succ, List.set_cons_zero, List.set_cons_succ, List.getElem?_cons_zero, List.eraseIdx_cons_zero, Option.isSome_some, Option.map_some, Int.reduceToNat, Int.reducePow, Int.reduceAdd, Int.reduceMul, Nat.zero_lt_succ, Nat.reduceLT, Nat.sub_self, Nat.reduceSub, Nat.reduceAdd, Nat.reduceLeDiff, Nat.zero_add, SY.kit_ii, SY.kit_ib, SY.kit_it, SY.kit_bi, SY.kit_bb, SY.kit_tt, SY.kit_ti, SY.kit_tb, SY.kit_nt, SY.kit_ll, SY.kit_lt, Bool.not_true, Bool.not_false, if_true, if_false, reduceIte, Bool.false_eq_true, true_and, and_true, and_self])

local macro_rules | `(tactic| simp! only [$ts,*]) => `(tactic| (try simp -dsimp (maxSteps := 3000000) only [$ts,*, ↓SY.someOf_z, ↓SY.int1_z, ↓SY.int2_z, ↓SY.bl1_z, ↓SY.optK_z, ↓SY.seqK_z, ↓SY.ixD_z, ↓SY.addD_z, ↓SY.lenD_z, ↓SY.slD_z, ↓SY.setD_z, ↓SY.appD_z, ↓SY.popD_z, ↓SY.dgsK_z, ↓SY.one_z, ↓SY.two_z, ↓SY.intK_z, ↓SY.rng1_z, ↓SY.rng2_z, ↓SY.frzK_z, ↓SY.forL_z, ↓SY.lcL_z, ↓SY.dSeq_z, SY.someZ_s, SY.int1Z_s, SY.int2Z_s, SY.bl1Z_s, SY.optZ_s, SY.addZ_i, SY.addZ_s, SY.addZ_t, SY.addZ_l, SY.addZ_p, SY.lenZ_t, SY.lenZ_l, SY.lenZ_s, SY.lenZ_p, SY.slZ_t, SY.slZ_l, SY.slZ_s, SY.slZ_p, SY.setZ_s, SY.appZ_s, SY.popZ_s, SY.dgsZ_s, SY.nilK_s, SY.oneZ_s, SY.twoZ_s, SY.intZ_i, SY.intZ_b, SY.rng1Z_s, SY.rng2Z_s, SY.frzZ_p, SY.frzZ_l, SY.frzZ_t, SY.forZ_nil, SY.forZ_cons, SY.lcZ_nil, SY.lcZ_cons, SY.goZ_s, ↓SY.sq_nx, ↓SY.sq_rt, ↓SY.sq_bk, ↓SY.sq_ct, ↓SY.sq_ex, ↓SY.lp_nx, ↓SY.lp_ct, ↓SY.lp_bk, ↓SY.lp_rt, ↓SY.lp_ex, SY.dAsg, SY.dRet, SY.dRetN, SY.dNext, SY.dIf, SY.dTst, SY.dC, SY.dVar, SY.dI, SY.dI0, SY.dMul, SY.dDiv, SY.dMod, SY.dPow, SY.dSub, SY.dLt, SY.dLe, SY.dGt, SY.dGe, SY.dNeg, SY.dAdd, SY.dIx, SY.dNil, SY.dCons, SY.dTup, SY.dLst, SY.dLstM, ↓SY.dCall_z, SY.dAbs, SY.dLen, SY.dTuple, SY.dList, SY.dListM, SY.dEq, SY.dNe, SY.dIsN, SY.dNotN, SY.dIsB, SY.dNotB, SY.dFrz, SY.dRaise, SY.dTryAs, SY.dTryOnly, SY.dIsE, SY.dtAnd, SY.dtOr, SY.dtNot, SY.dAnd, SY.dOr, SY.dNot, SY.dIsi, SY.dAll, SY.dSum, SY.dInt, SY.dSl, SY.dNoO, SY.dSomeO, SY.dDrop, SY.dAug, SY.dPar, SY.dAsgG, SY.dgName, SY.dgTup, SY.dgsNil, SY.dgsName, SY.dgSub, SY.dApp, SY.dPopAt, SY.dFor, SY.dForR1, SY.dForR2, SY.dForE, SY.dLc, SY.dLcR, SY.dLcRM, SY.rngL, SY.enumL, SY.frozen_tup, SY.frozen_lst, SY.frozen_scr, SY.frozL_lst, SY.frozL_scr, SY.seqOf_tup, SY.seqOf_lst, SY.seqOf_scr, SY.seqOf_ptr, SY.seqOf_int, SY.seqOf_str, SY.lstOf_lst, SY.lstOf_scr, SY.lstOf_ptr, SY.mlst_lst, SY.plst_lst, SY.plst_ptr, SY.isPtrL, SY.tyN, SY.isNon, SY.blsOf, SY.intsOf, SY.dend0, SY.dend, SY.startD, SY.eqOk_int, SY.eqv_int, SY.atI0, SY.atI1, SY.atI2, SY.atI3, SY.atI4, SY.atI5, SY.ixN0, decide_true, decide_false, Int.reduceEq, Int.reduceLT, Int.reduceLE, SY.ixN_21, SY.ixN_31, SY.ixN_32, SY.ixN_41, SY.ixN_42, SY.ixN_43, SY.seqIx0, SY.updT_same, SY.updT_updT, List.map_cons, List.map_nil, List.length_cons, List.length_nil, List.replicate, List.cons_append, List.nil_append, List.getD_cons_zero, List.getD_cons_succ, List.set_cons_zero, List.set_cons_succ, List.getElem?_cons_zero, List.eraseIdx_cons_zero, Option.isSome_some, Option.map_some, Int.reduceToNat, Int.reducePow, Int.reduceAdd, Int.reduceMul, Nat.zero_lt_succ, Nat.reduceLT, Nat.sub_self, Nat.reduceSub, Nat.reduceAdd, Nat.reduceLeDiff, Nat.zero_add, SY.kit_ii, SY.kit_ib, SY.kit_it, SY.kit_bi, SY.kit_bb, SY.kit_tt, SY.kit_ti, SY.kit_tb, SY.kit_nt, SY.kit_ll, SY.kit_lt, Bool.not_true, Bool.not_false, if_true, if_false, reduceIte, Bool.false_eq_true, true_and, and_true, and_self]))

namespace SY
open PySem PySem.Spec PyProof.Rows L2
def z3 (a b c : Int) : Bool := decide ([a, b, c] = [0, 0, 0])
theorem z3_t {a b c : Int} (h : z3 a b c = true) : a = 0 ∧ b = 0 ∧ c = 0 := by
  have := of_decide_eq_true h
  simpa using this
theorem z3_f {a b c : Int} (h : z3 a b c = false) : a ≠ 0 ∨ b ≠ 0 ∨ c ≠ 0 := by
  have := of_decide_eq_false h
  simp only [List.cons.injEq, and_true] at this
  by_cases ha : a = 0
  · by_cases hb : b = 0
    · exact .inr (.inr fun hc => this ⟨ha, hb, hc⟩)
    · exact .inr (.inl hb)
  · exact .inl ha
def hgt (a b c d x y z w : Int) : Int := a * x + b * y + c * z + d * w
section
variable {T : Sto} {P : D → Sto → Prop} {X : Xc → Sto → Prop}
noncomputable def sp_plane : DSp := lock <| sp4 fun a b c d T P X => int2 a b fun a b => int2 c d fun c d => if z3 a b c = true then X "NoPlane" T else B4 8000 a b c d ∧ P (.tup ((lowZ [a, b, c, d]).map .int)) T
def d_plane : DS := (dSeq (dIf (dtAnd (dTst (dEq (dVar 0) (dC (.int 0)))) (dtAnd (dTst (dEq (dVar 1) (dC (.int 0)))) (dTst (dEq (dVar 2) (dC (.int 0)))))) (dRaise "NoPlane") dNext) (dRet (dCall sp_lowest (dCons (dTup (dCons (dVar 0) (dCons (dVar 1) (dCons (dVar 2) (dCons (dVar 3) dNil))))) dNil))))
noncomputable def sp_height : DSp := lock <| sp2 fun f p T P _ => ∃ a b c d x y z w n, V4 T f a b c d ∧ V4 T p x y z w ∧ B4 n a b c d ∧ B4 n x y z w ∧ n ≤ 100000 ∧ P (.int (hgt a b c d x y z w)) T
def d_height : DS := (dRet (dAdd (dCall sp_dot (dCons (dVar 0) (dCons (dVar 1) dNil))) (dMul (dIx (dVar 0) (dC (.int 3))) (dIx (dVar 1) (dC (.int 3))))))
noncomputable def sp_l_height : DSp := lock <| sp2 fun f p T P _ => ∃ a b c d x y z w n, V4 T f a b c d ∧ V4 T p x y z w ∧ B4 n a b c d ∧ B4 n x y z w ∧ n ≤ 100000 ∧ P (.int (hgt a b c d x y z w)) T
def d_l_height : DS := (dSeq (dAsg (dAdd (dMul (dIx (dVar 0) (dC (.int 0))) (dIx (dVar 1) (dC (.int 0)))) (dMul (dIx (dVar 0) (dC (.int 1))) (dIx (dVar 1) (dC (.int 1))))) 2) (dRet (dAdd (dAdd (dVar 2) (dMul (dIx (dVar 0) (dC (.int 2))) (dIx (dVar 1) (dC (.int 2))))) (dMul (dIx (dVar 0) (dC (.int 3))) (dIx (dVar 1) (dC (.int 3)))))))
noncomputable def sp_over : DSp := lock <| sp1 fun f T P _ => ∃ a b c d, V4 T f a b c d ∧ P (.tup [.int (-a), .int (-b), .int (-c), .int (-d)]) T
def d_over : DS := (dRet (dTup (dCons (dNeg (dIx (dVar 0) (dC (.int 0)))) (dCons (dNeg (dIx (dVar 0) (dC (.int 1)))) (dCons (dNeg (dIx (dVar 0) (dC (.int 2)))) (dCons (dNeg (dIx (dVar 0) (dC (.int 3)))) dNil))))))
noncomputable def sp_l_over : DSp := lock <| sp1 fun f T P _ => ∃ ns : List Int, frozen f = some (ns.map .int) ∧ ns.length ≤ 1000 ∧ P (.tup ((ns.map (-·)).map .int)) T
def d_l_over : DS := (dRet (dTuple (dLc 1 (dVar 0) (dNeg (dVar 1)))))
/-- the plane of three points, as its raw numbers -/
def cx0 (p0 p1 p2 p3 q0 q1 q2 q3 r0 r1 r2 r3 : Int) : Int := (q1 * p3 - p1 * q3) * (r2 * p3 - p2 * r3) - (q2 * p3 - p2 * q3) * (r1 * p3 - p1 * r3)
noncomputable def sp_plane_through : DSp := lock <| sp3 fun a b c T P X => ∃ p0 p1 p2 p3 q0 q1 q2 q3 r0 r1 r2 r3 n, V4 T a p0 p1 p2 p3 ∧ V4 T b q0 q1 q2 q3 ∧ V4 T c r0 r1 r2 r3 ∧ p3 ≠ 0 ∧ B4 n p0 p1 p2 p3 ∧ B4 n q0 q1 q2 q3 ∧ B4 n r0 r1 r2 r3 ∧ n ≤ 1500 ∧
  if z3 (cx0 p0 p1 p2 p3 q0 q1 q2 q3 r0 r1 r2 r3) (cx0 p1 p2 p0 p3 q1 q2 q0 q3 r1 r2 r0 r3) (cx0 p2 p0 p1 p3 q2 q0 q1 q3 r2 r0 r1 r3) = true then X "NoPlane" T else
  P (.tup ((lowZ [cx0 p0 p1 p2 p3 q0 q1 q2 q3 r0 r1 r2 r3 * p3, cx0 p1 p2 p0 p3 q1 q2 q0 q3 r1 r2 r0 r3 * p3, cx0 p2 p0 p1 p3 q2 q0 q1 q3 r2 r0 r1 r3 * p3, -(cx0 p0 p1 p2 p3 q0 q1 q2 q3 r0 r1 r2 r3 * p0 + cx0 p1 p2 p0 p3 q1 q2 q0 q3 r1 r2 r0 r3 * p1 + cx0 p2 p0 p1 p3 q2 q0 q1 q3 r2 r0 r1 r3 * p2)]).map .int)) T
def d_plane_through : DS := (dSeq (dAsg (dCall sp_cross (dCons (dCall sp_arrow (dCons (dVar 0) (dCons (dVar 1) dNil))) (dCons (dCall sp_arrow (dCons (dVar 0) (dCons (dVar 2) dNil))) dNil))) 3) (dSeq (dIf (dTst (dEq (dVar 3) (dTup (dCons (dC (.int 0)) (dCons (dC (.int 0)) (dCons (dC (.int 0)) dNil)))))) (dRaise "NoPlane") dNext) (dRet (dCall sp_plane (dCons (dMul (dIx (dVar 3) (dC (.int 0))) (dIx (dVar 0) (dC (.int 3)))) (dCons (dMul (dIx (dVar 3) (dC (.int 1))) (dIx (dVar 0) (dC (.int 3)))) (dCons (dMul (dIx (dVar 3) (dC (.int 2))) (dIx (dVar 0) (dC (.int 3)))) (dCons (dNeg (dCall sp_dot (dCons (dVar 3) (dCons (dVar 0) dNil)))) dNil))))))))
end
end SY

namespace SY
open PySem PySem.Spec PyProof.Rows L2
section
variable {T : Sto} {P : D → Sto → Prop} {X : Xc → Sto → Prop}
/-- the law's plane of three points -/
noncomputable def sp_l_plane : DSp := lock <| sp3 fun a b c T P X => ∃ p0 p1 p2 p3 q0 q1 q2 q3 r0 r1 r2 r3 n, V4 T a p0 p1 p2 p3 ∧ V4 T b q0 q1 q2 q3 ∧ V4 T c r0 r1 r2 r3 ∧ B4 n p0 p1 p2 p3 ∧ B4 n q0 q1 q2 q3 ∧ B4 n r0 r1 r2 r3 ∧ n ≤ 1500 ∧
  if z3 (cx0 p0 p1 p2 p3 q0 q1 q2 q3 r0 r1 r2 r3) (cx0 p1 p2 p0 p3 q1 q2 q0 q3 r1 r2 r0 r3) (cx0 p2 p0 p1 p3 q2 q0 q1 q3 r2 r0 r1 r3) = true then P .non T else
  P (.tup ((lowZ [cx0 p0 p1 p2 p3 q0 q1 q2 q3 r0 r1 r2 r3 * p3, cx0 p1 p2 p0 p3 q1 q2 q0 q3 r1 r2 r0 r3 * p3, cx0 p2 p0 p1 p3 q2 q0 q1 q3 r2 r0 r1 r3 * p3, -(cx0 p0 p1 p2 p3 q0 q1 q2 q3 r0 r1 r2 r3 * p0 + cx0 p1 p2 p0 p3 q1 q2 q0 q3 r1 r2 r0 r3 * p1 + cx0 p2 p0 p1 p3 q2 q0 q1 q3 r2 r0 r1 r3 * p2)]).map .int)) T
def d_l_plane : DS := (dSeq (dAsg (dCall sp_l_cross (dCons (dCall sp_l_arrow (dCons (dVar 0) (dCons (dVar 1) dNil))) (dCons (dCall sp_l_arrow (dCons (dVar 0) (dCons (dVar 2) dNil))) dNil))) 3) (dSeq (dIf (dTst (dEq (dVar 3) (dLst (dCons (dC (.int 0)) (dCons (dC (.int 0)) (dCons (dC (.int 0)) dNil)))))) (dRet (dC .non)) dNext) (dSeq (dAsg (dAdd (dAdd (dMul (dIx (dVar 3) (dC (.int 0))) (dIx (dVar 0) (dC (.int 0)))) (dMul (dIx (dVar 3) (dC (.int 1))) (dIx (dVar 0) (dC (.int 1))))) (dMul (dIx (dVar 3) (dC (.int 2))) (dIx (dVar 0) (dC (.int 2))))) 4) (dSeq (dAsg (dLcR 6 (dCons (dC (.int 3)) dNil) (dMul (dIx (dVar 3) (dVar 6)) (dIx (dVar 0) (dC (.int 3))))) 5) (dRet (dCall sp_l_lowest (dCons (dAdd (dVar 5) (dLst (dCons (dNeg (dVar 4)) dNil))) dNil)))))))
/-- a line of its way and its moment -/
noncomputable def sp_line_from : DSp := lock <| sp2 fun u v T P _ => ∃ a b c d e f, u = .tup [.int a, .int b, .int c] ∧ v = .tup [.int d, .int e, .int f] ∧ B6 8000 a b c d e f ∧ P (.tup ((flip6 (lowZ [a, b, c, d, e, f])).map .int)) T
def d_line_from : DS := (dSeq (dAsg (dCall sp_lowest (dCons (dAdd (dVar 0) (dVar 1)) dNil)) 2) (dSeq (dAsg (dIx (dVar 2) (dC (.int 0))) 3) (dSeq (dIf (dTst (dEq (dVar 3) (dC (.int 0)))) (dAsg (dIx (dVar 2) (dC (.int 1))) 3) dNext) (dSeq (dIf (dTst (dEq (dVar 3) (dC (.int 0)))) (dAsg (dIx (dVar 2) (dC (.int 2))) 3) dNext) (dSeq (dIf (dTst (dLt (dVar 3) (dC (.int 0)))) (dRet (dTuple (dLc 4 (dVar 2) (dNeg (dVar 4))))) dNext) (dRet (dVar 2)))))))
noncomputable def sp_line_through : DSp := lock <| sp2 fun a b T P X => ∃ p0 p1 p2 p3 q0 q1 q2 q3 n, V4 T a p0 p1 p2 p3 ∧ V4 T b q0 q1 q2 q3 ∧ B4 n p0 p1 p2 p3 ∧ B4 n q0 q1 q2 q3 ∧ n ≤ 3900 ∧ if z3 (q0 * p3 - p0 * q3) (q1 * p3 - p1 * q3) (q2 * p3 - p2 * q3) = true then X "NoLine" T else
  P (.tup ((flip6 (lowZ [q0 * p3 - p0 * q3, q1 * p3 - p1 * q3, q2 * p3 - p2 * q3, p1 * q2 - p2 * q1, p2 * q0 - p0 * q2, p0 * q1 - p1 * q0])).map .int)) T
def d_line_through : DS := (dSeq (dAsg (dCall sp_arrow (dCons (dVar 0) (dCons (dVar 1) dNil))) 2) (dSeq (dIf (dTst (dEq (dVar 2) (dTup (dCons (dC (.int 0)) (dCons (dC (.int 0)) (dCons (dC (.int 0)) dNil)))))) (dRaise "NoLine") dNext) (dRet (dCall sp_line_from (dCons (dVar 2) (dCons (dCall sp_cross (dCons (dVar 0) (dCons (dVar 1) dNil))) dNil))))))
/-- the line of two planes -/
noncomputable def sp_line_common : DSp := lock <| sp2 fun a b T P X => ∃ p0 p1 p2 p3 q0 q1 q2 q3 n, V4 T a p0 p1 p2 p3 ∧ V4 T b q0 q1 q2 q3 ∧ B4 n p0 p1 p2 p3 ∧ B4 n q0 q1 q2 q3 ∧ n ≤ 3900 ∧ if z3 (p1 * q2 - p2 * q1) (p2 * q0 - p0 * q2) (p0 * q1 - p1 * q0) = true then P .non T else
  P (.tup ((flip6 (lowZ [p1 * q2 - p2 * q1, p2 * q0 - p0 * q2, p0 * q1 - p1 * q0, p3 * q0 - q3 * p0, p3 * q1 - q3 * p1, p3 * q2 - q3 * p2])).map .int)) T
def d_line_common : DS := (dSeq (dAsg (dCall sp_cross (dCons (dVar 0) (dCons (dVar 1) dNil))) 2) (dSeq (dIf (dTst (dEq (dVar 2) (dTup (dCons (dC (.int 0)) (dCons (dC (.int 0)) (dCons (dC (.int 0)) dNil)))))) (dRet (dC .non)) dNext) (dSeq (dAsg (dSub (dMul (dIx (dVar 0) (dC (.int 3))) (dIx (dVar 1) (dC (.int 0)))) (dMul (dIx (dVar 1) (dC (.int 3))) (dIx (dVar 0) (dC (.int 0))))) 3) (dSeq (dAsg (dSub (dMul (dIx (dVar 0) (dC (.int 3))) (dIx (dVar 1) (dC (.int 1)))) (dMul (dIx (dVar 1) (dC (.int 3))) (dIx (dVar 0) (dC (.int 1))))) 4) (dSeq (dAsg (dSub (dMul (dIx (dVar 0) (dC (.int 3))) (dIx (dVar 1) (dC (.int 2)))) (dMul (dIx (dVar 1) (dC (.int 3))) (dIx (dVar 0) (dC (.int 2))))) 5) (dRet (dCall sp_line_from (dCons (dVar 2) (dCons (dTup (dCons (dVar 3) (dCons (dVar 4) (dCons (dVar 5) dNil)))) dNil)))))))))
/-- where a line meets a plane -/
noncomputable def sp_spot : DSp := lock <| sp2 fun l p T P X => ∃ a b c d e f p0 p1 p2 p3 n, l = d6 a b c d e f ∧ V4 T p p0 p1 p2 p3 ∧ B6 n a b c d e f ∧ B4 n p0 p1 p2 p3 ∧ n ≤ 3900 ∧ if a * p0 + b * p1 + c * p2 = 0 then P .non T else
  P (.tup ((sgZ [p1 * f - p2 * e - p3 * a, p2 * d - p0 * f - p3 * b, p0 * e - p1 * d - p3 * c, a * p0 + b * p1 + c * p2]).map .int)) T
def d_spot : DS := (dSeq (dAsg (dCall sp_dot (dCons (dVar 0) (dCons (dVar 1) dNil))) 2) (dSeq (dIf (dTst (dEq (dVar 2) (dC (.int 0)))) (dRet (dC .non)) dNext) (dSeq (dAsg (dCall sp_cross (dCons (dVar 1) (dCons (dTup (dCons (dIx (dVar 0) (dC (.int 3))) (dCons (dIx (dVar 0) (dC (.int 4))) (dCons (dIx (dVar 0) (dC (.int 5))) dNil)))) dNil))) 3) (dSeq (dAsg (dSub (dIx (dVar 3) (dC (.int 0))) (dMul (dIx (dVar 1) (dC (.int 3))) (dIx (dVar 0) (dC (.int 0))))) 4) (dSeq (dAsg (dSub (dIx (dVar 3) (dC (.int 1))) (dMul (dIx (dVar 1) (dC (.int 3))) (dIx (dVar 0) (dC (.int 1))))) 5) (dSeq (dAsg (dSub (dIx (dVar 3) (dC (.int 2))) (dMul (dIx (dVar 1) (dC (.int 3))) (dIx (dVar 0) (dC (.int 2))))) 6) (dRet (dCall sp_point (dCons (dVar 4) (dCons (dVar 5) (dCons (dVar 6) (dCons (dVar 2) dNil))))))))))))
end
end SY

namespace SY
open PySem PySem.Spec PyProof.Rows L2
/-! ### the plane of three points: four numbers that turn with the order of the points -/
def nm0 (p0 p1 p2 p3 q0 q1 q2 q3 r0 r1 r2 r3 : Int) : Int := p3 * (q1 * r2 - q2 * r1) + q3 * (r1 * p2 - r2 * p1) + r3 * (p1 * q2 - p2 * q1)
def mpl (p0 p1 p2 p3 q0 q1 q2 q3 r0 r1 r2 r3 : Int) : List Int := [nm0 p0 p1 p2 p3 q0 q1 q2 q3 r0 r1 r2 r3, nm0 p1 p2 p0 p3 q1 q2 q0 q3 r1 r2 r0 r3, nm0 p2 p0 p1 p3 q2 q0 q1 q3 r2 r0 r1 r3, -tr3 p0 p1 p2 q0 q1 q2 r0 r1 r2]
section
variable {p0 p1 p2 p3 q0 q1 q2 q3 r0 r1 r2 r3 s0 s1 s2 s3 : Int}
/-- the three noughts of points on a line -/
def nz (p0 p1 p2 p3 q0 q1 q2 q3 r0 r1 r2 r3 : Int) : Bool := z3 (nm0 p0 p1 p2 p3 q0 q1 q2 q3 r0 r1 r2 r3) (nm0 p1 p2 p0 p3 q1 q2 q0 q3 r1 r2 r0 r3) (nm0 p2 p0 p1 p3 q2 q0 q1 q3 r2 r0 r1 r3)
end
section
variable {T : Sto} {P : D → Sto → Prop} {X : Xc → Sto → Prop}
end
end SY

namespace SY
open PySem PySem.Spec PyProof.Rows L2
section
variable {p0 p1 p2 p3 q0 q1 q2 q3 r0 r1 r2 r3 s0 s1 s2 s3 : Int}
end
/-- a plane that the law draws -/
def IsPl (n : Nat) (a b c d : Int) : Prop := (a ≠ 0 ∨ b ≠ 0 ∨ c ≠ 0) ∧ B4 n a b c d
theorem IsPl.mono {m n : Nat} {a b c d : Int} (h : IsPl m a b c d) (l : m ≤ n) : IsPl n a b c d := ⟨h.1, h.2.mono l⟩
theorem IsPl.neg {n : Nat} {a b c d : Int} (h : IsPl n a b c d) : IsPl n (-a) (-b) (-c) (-d) := ⟨by rcases h.1 with z | z | z <;> omega, h.2.1.neg, h.2.2.1.neg, h.2.2.2.1.neg, h.2.2.2.2.neg⟩
section
variable {T : Sto} {P : D → Sto → Prop} {X : Xc → Sto → Prop}
noncomputable def sp_l_any_plane : DSp := lock <| sp1 fun a T P _ => ∃ r, a = .ptr r ∧ T r = some .row ∧ ∀ a b c d : Int, IsPl 60 a b c d → P (.tup [.int a, .int b, .int c, .int d]) T
def d_l_any_plane : DS := (dSeq (dAsg (dIx (dLst (dCons (dC (.int 2)) (dCons (dC (.int 9)) (dCons (dPow (dC (.int 10)) (dC (.int 15))) dNil)))) (dCall sp_l_take (dCons (dVar 0) (dCons (dC (.int 3)) dNil)))) 1) (dSeq (dAsg (dLcR 3 (dCons (dC (.int 4)) dNil) (dSub (dCall sp_l_take (dCons (dVar 0) (dCons (dAdd (dMul (dC (.int 2)) (dVar 1)) (dC (.int 1))) dNil))) (dVar 1))) 2) (dSeq (dIf (dTst (dEq (dSl (dVar 2) dNoO (dSomeO (dC (.int 3)))) (dLst (dCons (dC (.int 0)) (dCons (dC (.int 0)) (dCons (dC (.int 0)) dNil)))))) (dRet (dIx (dLst (dCons (dTup (dCons (dC (.int 1)) (dCons (dC (.int 0)) (dCons (dC (.int 0)) (dCons (dC (.int 0)) dNil))))) (dCons (dTup (dCons (dC (.int 0)) (dCons (dNeg (dC (.int 1))) (dCons (dC (.int 0)) (dCons (dC (.int 0)) dNil))))) (dCons (dTup (dCons (dC (.int 0)) (dCons (dC (.int 0)) (dCons (dC (.int 1)) (dCons (dC (.int 0)) dNil))))) dNil)))) (dCall sp_l_take (dCons (dVar 0) (dCons (dC (.int 3)) dNil))))) dNext) (dRet (dCall sp_l_lowest (dCons (dVar 2) dNil))))))
end
end SY

namespace SY
open PySem PySem.Spec PyProof.Rows L2
/-! ### tables -/
def tabL (h0 h1 h2 h3 i0 i1 i2 i3 j0 j1 j2 j3 b : Int) : List Int := [h0, h1, h2, h3, i0, i1, i2, i3, j0, j1, j2, j3, b]
def row4 (a b c d : Int) : D := .tup [.int a, .int b, .int c, .int d]
def tabD (h0 h1 h2 h3 i0 i1 i2 i3 j0 j1 j2 j3 b : Int) : D := .tup [.tup [.int h0, .int h1, .int h2, .int h3], .tup [.int i0, .int i1, .int i2, .int i3], .tup [.int j0, .int j1, .int j2, .int j3], .int b]
structure IsTab (n : Nat) (h0 h1 h2 h3 i0 i1 i2 i3 j0 j1 j2 j3 b : Int) : Prop where
  pos : 0 < b
  det : tr3 h0 h1 h2 i0 i1 i2 j0 j1 j2 ≠ 0
  low : gcdL (tabL h0 h1 h2 h3 i0 i1 i2 i3 j0 j1 j2 j3 b) = 1
  bh : B4 n h0 h1 h2 h3
  bi : B4 n i0 i1 i2 i3
  bj : B4 n j0 j1 j2 j3
  bb : Bd n b
def allB (n : Nat) (ns : List Int) : Prop := ∀ z ∈ ns, Bd n z
section
variable {T : Sto} {P : D → Sto → Prop} {X : Xc → Sto → Prop}
noncomputable def sp_l_mass : DSp := lock <| sp1 fun a T P _ => ∃ u v w l h0 h1 h2 i0 i1 i2 j0 j1 j2 n, seqOf T a = some (u :: v :: w :: l) ∧ V3 T u h0 h1 h2 ∧ V3 T v i0 i1 i2 ∧ V3 T w j0 j1 j2 ∧ B3 n h0 h1 h2 ∧ B3 n i0 i1 i2 ∧ B3 n j0 j1 j2 ∧ n ≤ 20000 ∧ P (.int (tr3 h0 h1 h2 i0 i1 i2 j0 j1 j2)) T
def d_l_mass : DS := (dSeq (dAsg (dCall sp_l_cross (dCons (dIx (dVar 0) (dC (.int 1))) (dCons (dIx (dVar 0) (dC (.int 2))) dNil))) 1) (dRet (dSum (dLcR 2 (dCons (dC (.int 3)) dNil) (dMul (dIx (dIx (dVar 0) (dC (.int 0))) (dVar 2)) (dIx (dVar 1) (dVar 2)))))))
def Ext (T T' : Sto) : Prop := ∀ x m, T x = some m → T' x = some m
def intM (ns : List Int) : MO := .lst (ns.map .int)
def d_l_table_b1 : DS := (dDrop (dApp (dVar 3) (dLcRM 5 (dCons (dC (.int 4)) dNil) (dSub (dCall sp_l_take (dCons (dVar 0) (dCons (dAdd (dMul (dC (.int 2)) (dVar 1)) (dC (.int 1))) dNil))) (dVar 1)))))
def d_l_table_b2 : DS := (dAsgG (dAdd (dIx (dIx (dVar 3) (dVar 5)) (dVar 5)) (dC (.int 1))) (dgSub (dIx (dVar 3) (dVar 5)) (dVar 5)))
def d_l_table_b3 : DS := (dIf (dTst (dEq (dCall sp_l_mass (dCons (dVar 3) dNil)) (dC (.int 0)))) (dForR1 (dgName 5) (dCons (dC (.int 3)) dNil) d_l_table_b2) dNext)
def d_l_table : DS := (dSeq (dAsg (dLstM dNil) 3) (dSeq (dForR1 (dgName 4) (dCons (dC (.int 3)) dNil) d_l_table_b1) (dSeq (dForR1 (dgName 4) (dCons (dC (.int 3)) dNil) d_l_table_b3) (dSeq (dAsg (dAdd (dC (.int 1)) (dCall sp_l_take (dCons (dVar 0) (dCons (dVar 2) dNil)))) 6) (dSeq (dAsg (dCall sp_l_lowest (dCons (dAdd (dAdd (dAdd (dIx (dVar 3) (dC (.int 0))) (dIx (dVar 3) (dC (.int 1)))) (dIx (dVar 3) (dC (.int 2)))) (dLst (dCons (dVar 6) dNil))) dNil)) 7) (dRet (dTup (dCons (dSl (dVar 7) dNoO (dSomeO (dC (.int 4)))) (dCons (dSl (dVar 7) (dSomeO (dC (.int 4))) (dSomeO (dC (.int 8)))) (dCons (dSl (dVar 7) (dSomeO (dC (.int 8))) (dSomeO (dC (.int 12)))) (dCons (dIx (dVar 7) (dC (.int 12))) dNil)))))))))))
/-- the three rows as they stand -/
structure Rws (T' : Sto) (r R a b c : Addr) (h0 h1 h2 h3 i0 i1 i2 i3 j0 j1 j2 j3 : Int) : Prop where
  row : T' r = some .row
  top : T' R = some (.lst [.ptr a, .ptr b, .ptr c])
  ha : T' a = some (intM [h0, h1, h2, h3])
  hb : T' b = some (intM [i0, i1, i2, i3])
  hc : T' c = some (intM [j0, j1, j2, j3])
  ab : a ≠ b
  ac : a ≠ c
  bc : b ≠ c
theorem Rws.upd {T' : Sto} {r R a b c : Addr} {h0 h1 h2 h3 i0 i1 i2 i3 j0 j1 j2 j3 : Int} (q : Rws T' r R a b c h0 h1 h2 h3 i0 i1 i2 i3 j0 j1 j2 j3) : r ≠ a ∧ r ≠ b ∧ r ≠ c ∧ R ≠ a ∧ R ≠ b ∧ R ≠ c := by
  have k : ∀ {x y : Addr} {m m' : MO}, T' x = some m → T' y = some m' → m ≠ m' → x ≠ y := fun h1 h2 hm z => by subst z; rw [h1] at h2; cases h2; exact hm rfl
  exact ⟨k q.row q.ha (by unfold intM; simp), k q.row q.hb (by unfold intM; simp), k q.row q.hc (by unfold intM; simp), k q.top q.ha (by unfold intM; simp), k q.top q.hb (by unfold intM; simp), k q.top q.hc (by unfold intM; simp)⟩
end
end SY

namespace SY
open PySem PySem.Spec PyProof.Rows L2
section
variable {T : Sto} {P : D → Sto → Prop} {X : Xc → Sto → Prop}
noncomputable def sp_l_table : DSp := lock <| sp3 fun a b c T P _ => ∃ r, a = .ptr r ∧ T r = some .row ∧ int2 b c fun s u => (0 < s ∧ s ≤ 10 ^ 20 ∧ 0 < u ∧ u ≤ 10 ^ 20) ∧ ∀ h0 h1 h2 h3 i0 i1 i2 i3 j0 j1 j2 j3 w : Int, IsTab 90 h0 h1 h2 h3 i0 i1 i2 i3 j0 j1 j2 j3 w → P (tabD h0 h1 h2 h3 i0 i1 i2 i3 j0 j1 j2 j3 w) T
/-- what a table makes of a point, as raw numbers -/
def mvL (h0 h1 h2 h3 i0 i1 i2 i3 j0 j1 j2 j3 b x y z w : Int) : List Int := [hgt h0 h1 h2 h3 x y z w, hgt i0 i1 i2 i3 x y z w, hgt j0 j1 j2 j3 x y z w, b * w]
noncomputable def sp_l_move : DSp := lock <| sp2 fun p t T P _ => ∃ h0 h1 h2 h3 i0 i1 i2 i3 j0 j1 j2 j3 b x y z w n, t = tabD h0 h1 h2 h3 i0 i1 i2 i3 j0 j1 j2 j3 b ∧ V4 T p x y z w ∧ B4 n h0 h1 h2 h3 ∧ B4 n i0 i1 i2 i3 ∧ B4 n j0 j1 j2 j3 ∧ Bd n b ∧ B4 n x y z w ∧ n ≤ 3900 ∧ P (.tup ((lowZ (mvL h0 h1 h2 h3 i0 i1 i2 i3 j0 j1 j2 j3 b x y z w)).map .int)) T
def d_l_move : DS := (dSeq (dAsg (dLstM dNil) 2) (dSeq (dForR1 (dgName 3) (dCons (dC (.int 3)) dNil) (dSeq (dAsg (dAdd (dMul (dIx (dIx (dVar 1) (dVar 3)) (dC (.int 0))) (dIx (dVar 0) (dC (.int 0)))) (dMul (dIx (dIx (dVar 1) (dVar 3)) (dC (.int 1))) (dIx (dVar 0) (dC (.int 1))))) 4) (dDrop (dApp (dVar 2) (dAdd (dAdd (dVar 4) (dMul (dIx (dIx (dVar 1) (dVar 3)) (dC (.int 2))) (dIx (dVar 0) (dC (.int 2))))) (dMul (dIx (dIx (dVar 1) (dVar 3)) (dC (.int 3))) (dIx (dVar 0) (dC (.int 3))))))))) (dRet (dCall sp_l_lowest (dCons (dAdd (dVar 2) (dLst (dCons (dMul (dIx (dVar 1) (dC (.int 3))) (dIx (dVar 0) (dC (.int 3)))) dNil))) dNil)))))
noncomputable def sp_moved_point : DSp := lock <| sp2 fun p t T P _ => ∃ h0 h1 h2 h3 i0 i1 i2 i3 j0 j1 j2 j3 b x y z w n, t = tabD h0 h1 h2 h3 i0 i1 i2 i3 j0 j1 j2 j3 b ∧ V4 T p x y z w ∧ B4 n h0 h1 h2 h3 ∧ B4 n i0 i1 i2 i3 ∧ B4 n j0 j1 j2 j3 ∧ Bd n b ∧ B4 n x y z w ∧ n ≤ 3900 ∧ 0 < b ∧ 0 < w ∧ P (.tup ((lowZ (mvL h0 h1 h2 h3 i0 i1 i2 i3 j0 j1 j2 j3 b x y z w)).map .int)) T
def d_moved_point : DS := (dSeq (dAsg (dAdd (dCall sp_dot (dCons (dIx (dVar 1) (dC (.int 0))) (dCons (dVar 0) dNil))) (dMul (dIx (dIx (dVar 1) (dC (.int 0))) (dC (.int 3))) (dIx (dVar 0) (dC (.int 3))))) 2) (dSeq (dAsg (dAdd (dCall sp_dot (dCons (dIx (dVar 1) (dC (.int 1))) (dCons (dVar 0) dNil))) (dMul (dIx (dIx (dVar 1) (dC (.int 1))) (dC (.int 3))) (dIx (dVar 0) (dC (.int 3))))) 3) (dSeq (dAsg (dAdd (dCall sp_dot (dCons (dIx (dVar 1) (dC (.int 2))) (dCons (dVar 0) dNil))) (dMul (dIx (dIx (dVar 1) (dC (.int 2))) (dC (.int 3))) (dIx (dVar 0) (dC (.int 3))))) 4) (dRet (dCall sp_point (dCons (dVar 2) (dCons (dVar 3) (dCons (dVar 4) (dCons (dMul (dIx (dVar 1) (dC (.int 3))) (dIx (dVar 0) (dC (.int 3)))) dNil)))))))))
end
end SY

namespace SY
open PySem PySem.Spec PyProof.Rows L2
section
variable {T : Sto} {P : D → Sto → Prop} {X : Xc → Sto → Prop}
noncomputable def sp_l_pointG : DSp := lock <| sp3 fun a b c T P _ => ∃ r, a = .ptr r ∧ T r = some .row ∧ int2 b c fun s m => (0 < s ∧ s ≤ 10 ^ 62 ∧ 0 < m ∧ m ≤ 10 ^ 61) ∧ ∀ x y z w : Int, IsPt 210 x y z w → P (.tup [.int x, .int y, .int z, .int w]) T
theorem sp_l_wholes_mk {ns : List Int} {m : Int} (hl : ns.length ≤ 1000) (e : (ns.length : Int) = m) (h : P (.bl true) T) : sp_l_wholes [.tup (ns.map .int), .int m] T P X := lock_at ⟨ns, rfl, hl, by show P _ T; rw [decide_eq_true e]; exact h⟩
end
end SY

namespace SY
open PySem PySem.Spec PyProof.Rows L2
section
variable {T : Sto} {P : D → Sto → Prop} {X : Xc → Sto → Prop}
noncomputable def sp_swelling : DSp := lock <| sp1 fun a T P _ => ∃ u v w l h0 h1 h2 i0 i1 i2 j0 j1 j2 n, seqOf T a = some (u :: v :: w :: l) ∧ V3 T u h0 h1 h2 ∧ V3 T v i0 i1 i2 ∧ V3 T w j0 j1 j2 ∧ B3 n h0 h1 h2 ∧ B3 n i0 i1 i2 ∧ B3 n j0 j1 j2 ∧ n ≤ 20000 ∧ P (.int (tr3 h0 h1 h2 i0 i1 i2 j0 j1 j2)) T
def d_swelling : DS := (dRet (dCall sp_dot (dCons (dIx (dVar 0) (dC (.int 0))) (dCons (dCall sp_cross (dCons (dIx (dVar 0) (dC (.int 1))) (dCons (dIx (dVar 0) (dC (.int 2))) dNil))) dNil))))
noncomputable def sp_table : DSp := lock <| sp4 fun u v w t T P X => ∃ h0 h1 h2 h3 i0 i1 i2 i3 j0 j1 j2 j3 b n, u = .tup [.int h0, .int h1, .int h2, .int h3] ∧ v = .tup [.int i0, .int i1, .int i2, .int i3] ∧ w = .tup [.int j0, .int j1, .int j2, .int j3] ∧ t = .int b ∧ allB n (tabL h0 h1 h2 h3 i0 i1 i2 i3 j0 j1 j2 j3 b) ∧ n ≤ 8000 ∧
  ((b = 0 ∨ tr3 h0 h1 h2 i0 i1 i2 j0 j1 j2 = 0) → X "FlatMove" T) ∧ (b ≠ 0 → tr3 h0 h1 h2 i0 i1 i2 j0 j1 j2 ≠ 0 → ∀ x0 x1 x2 x3 y0 y1 y2 y3 z0 z1 z2 z3 w g, sgZ (tabL h0 h1 h2 h3 i0 i1 i2 i3 j0 j1 j2 j3 b) = tabL x0 x1 x2 x3 y0 y1 y2 y3 z0 z1 z2 z3 w → IsTab n x0 x1 x2 x3 y0 y1 y2 y3 z0 z1 z2 z3 w → g ≠ 0 → tabL h0 h1 h2 h3 i0 i1 i2 i3 j0 j1 j2 j3 b = (tabL x0 x1 x2 x3 y0 y1 y2 y3 z0 z1 z2 z3 w).map (g * ·) → P (tabD x0 x1 x2 x3 y0 y1 y2 y3 z0 z1 z2 z3 w) T)
def d_table : DS := (dSeq (dIf (dtOr (dTst (dEq (dVar 3) (dC (.int 0)))) (dTst (dEq (dCall sp_swelling (dCons (dTup (dCons (dVar 0) (dCons (dVar 1) (dCons (dVar 2) dNil)))) dNil)) (dC (.int 0))))) (dRaise "FlatMove") dNext) (dSeq (dAsg (dCall sp_lowest (dCons (dAdd (dAdd (dAdd (dVar 0) (dVar 1)) (dVar 2)) (dTup (dCons (dVar 3) dNil))) dNil)) 4) (dSeq (dIf (dTst (dLt (dVar 3) (dC (.int 0)))) (dAsg (dTuple (dLc 5 (dVar 4) (dNeg (dVar 5)))) 4) dNext) (dRet (dTup (dCons (dSl (dVar 4) dNoO (dSomeO (dC (.int 4)))) (dCons (dSl (dVar 4) (dSomeO (dC (.int 4))) (dSomeO (dC (.int 8)))) (dCons (dSl (dVar 4) (dSomeO (dC (.int 8))) (dSomeO (dC (.int 12)))) (dCons (dIx (dVar 4) (dC (.int 12))) dNil)))))))))
noncomputable def sp_behind : DSp := lock <| sp2 fun u t T P _ => ∃ h0 h1 h2 h3 i0 i1 i2 i3 j0 j1 j2 j3 b r0 r1 r2 r3 n, V4 T u r0 r1 r2 r3 ∧ t = tabD h0 h1 h2 h3 i0 i1 i2 i3 j0 j1 j2 j3 b ∧ B4 n r0 r1 r2 r3 ∧ B4 n h0 h1 h2 h3 ∧ B4 n i0 i1 i2 i3 ∧ B4 n j0 j1 j2 j3 ∧ Bd n b ∧ n ≤ 20000 ∧
  P (.tup [.int (r0 * h0 + r1 * i0 + r2 * j0), .int (r0 * h1 + r1 * i1 + r2 * j1), .int (r0 * h2 + r1 * i2 + r2 * j2), .int (r0 * h3 + r1 * i3 + r2 * j3 + r3 * b)]) T
def d_behind : DS := (dSeq (dAsg (dLstM dNil) 2) (dSeq (dForR1 (dgName 3) (dCons (dC (.int 4)) dNil) (dDrop (dApp (dVar 2) (dAdd (dAdd (dMul (dIx (dVar 0) (dC (.int 0))) (dIx (dIx (dVar 1) (dC (.int 0))) (dVar 3))) (dMul (dIx (dVar 0) (dC (.int 1))) (dIx (dIx (dVar 1) (dC (.int 1))) (dVar 3)))) (dMul (dIx (dVar 0) (dC (.int 2))) (dIx (dIx (dVar 1) (dC (.int 2))) (dVar 3))))))) (dRet (dTup (dCons (dIx (dVar 2) (dC (.int 0))) (dCons (dIx (dVar 2) (dC (.int 1))) (dCons (dIx (dVar 2) (dC (.int 2))) (dCons (dAdd (dIx (dVar 2) (dC (.int 3))) (dMul (dIx (dVar 0) (dC (.int 3))) (dIx (dVar 1) (dC (.int 3))))) dNil))))))))
end
end SY

namespace SY
open PySem PySem.Spec PyProof.Rows L2
/-- the product of two tables: first h i j b, then e f g c -/
def prL (h0 h1 h2 h3 i0 i1 i2 i3 j0 j1 j2 j3 b e0 e1 e2 e3 f0 f1 f2 f3 g0 g1 g2 g3 c : Int) : List Int :=
  tabL (e0 * h0 + e1 * i0 + e2 * j0) (e0 * h1 + e1 * i1 + e2 * j1) (e0 * h2 + e1 * i2 + e2 * j2) (e0 * h3 + e1 * i3 + e2 * j3 + e3 * b)
    (f0 * h0 + f1 * i0 + f2 * j0) (f0 * h1 + f1 * i1 + f2 * j1) (f0 * h2 + f1 * i2 + f2 * j2) (f0 * h3 + f1 * i3 + f2 * j3 + f3 * b)
    (g0 * h0 + g1 * i0 + g2 * j0) (g0 * h1 + g1 * i1 + g2 * j1) (g0 * h2 + g1 * i2 + g2 * j2) (g0 * h3 + g1 * i3 + g2 * j3 + g3 * b) (b * c)
section
variable {T : Sto} {P : D → Sto → Prop} {X : Xc → Sto → Prop}
noncomputable def sp_after : DSp := lock <| sp2 fun s t T P _ => ∃ h0 h1 h2 h3 i0 i1 i2 i3 j0 j1 j2 j3 b e0 e1 e2 e3 f0 f1 f2 f3 g0 g1 g2 g3 c, s = tabD h0 h1 h2 h3 i0 i1 i2 i3 j0 j1 j2 j3 b ∧ t = tabD e0 e1 e2 e3 f0 f1 f2 f3 g0 g1 g2 g3 c ∧ IsTab 600 h0 h1 h2 h3 i0 i1 i2 i3 j0 j1 j2 j3 b ∧ IsTab 600 e0 e1 e2 e3 f0 f1 f2 f3 g0 g1 g2 g3 c ∧
  ∀ x0 x1 x2 x3 y0 y1 y2 y3 z0 z1 z2 z3 w k, sgZ (prL h0 h1 h2 h3 i0 i1 i2 i3 j0 j1 j2 j3 b e0 e1 e2 e3 f0 f1 f2 f3 g0 g1 g2 g3 c) = tabL x0 x1 x2 x3 y0 y1 y2 y3 z0 z1 z2 z3 w → IsTab 1210 x0 x1 x2 x3 y0 y1 y2 y3 z0 z1 z2 z3 w → k ≠ 0 → prL h0 h1 h2 h3 i0 i1 i2 i3 j0 j1 j2 j3 b e0 e1 e2 e3 f0 f1 f2 f3 g0 g1 g2 g3 c = (tabL x0 x1 x2 x3 y0 y1 y2 y3 z0 z1 z2 z3 w).map (k * ·) → P (tabD x0 x1 x2 x3 y0 y1 y2 y3 z0 z1 z2 z3 w) T
def d_after : DS := (dSeq (dAsg (dLc 3 (dSl (dVar 1) dNoO (dSomeO (dC (.int 3)))) (dCall sp_behind (dCons (dVar 3) (dCons (dVar 0) dNil)))) 2) (dRet (dCall sp_table (dCons (dIx (dVar 2) (dC (.int 0))) (dCons (dIx (dVar 2) (dC (.int 1))) (dCons (dIx (dVar 2) (dC (.int 2))) (dCons (dMul (dIx (dVar 0) (dC (.int 3))) (dIx (dVar 1) (dC (.int 3)))) dNil)))))))
end
theorem IsTab.mono {m n : Nat} {h0 h1 h2 h3 i0 i1 i2 i3 j0 j1 j2 j3 b : Int} (h : IsTab m h0 h1 h2 h3 i0 i1 i2 i3 j0 j1 j2 j3 b) (l : m ≤ n) : IsTab n h0 h1 h2 h3 i0 i1 i2 i3 j0 j1 j2 j3 b := ⟨h.pos, h.det, h.low, h.bh.mono l, h.bi.mono l, h.bj.mono l, h.bb.mono l⟩
def mvP (t : List Int) (p : List Int) : List Int := match t, p with
  | [h0, h1, h2, h3, i0, i1, i2, i3, j0, j1, j2, j3, b], [x, y, z, w] => mvL h0 h1 h2 h3 i0 i1 i2 i3 j0 j1 j2 j3 b x y z w
  | _, _ => []
end SY

namespace SY
open PySem PySem.Spec PyProof.Rows L2
/-! ### points of a line, ends, rows -/
structure Pt where
  x : Int
  y : Int
  z : Int
  w : Int
deriving DecidableEq
structure Ln where
  a : Int
  b : Int
  c : Int
  d : Int
  e : Int
  f : Int
def Pt.D (p : Pt) : D := .tup [.int p.x, .int p.y, .int p.z, .int p.w]
def Ln.D (l : Ln) : D := d6 l.a l.b l.c l.d l.e l.f
def Pt.B (n : Nat) (p : Pt) : Prop := B4 n p.x p.y p.z p.w
def Ln.B (n : Nat) (l : Ln) : Prop := B6 n l.a l.b l.c l.d l.e l.f
theorem Pt.v4 {T : Sto} (p : Pt) : V4 T p.D p.x p.y p.z p.w := ⟨_, rfl⟩
theorem Ln.v3 {T : Sto} (l : Ln) : V3 T l.D l.a l.b l.c := ⟨_, rfl⟩
theorem Pt.B.mono {m n : Nat} {p : Pt} (h : p.B m) (l : m ≤ n) : p.B n := B4.mono h l
theorem Ln.B.mono {m n : Nat} {p : Ln} (h : p.B m) (l : m ≤ n) : p.B n := ⟨B3.mono h.1 l, B3.mono h.2 l⟩
def dotP (l : Ln) (p : Pt) : Int := l.a * p.x + l.b * p.y + l.c * p.z
def ahd (l : Ln) (p q : Pt) : Int := (dotP l p * q.w - dotP l q * p.w).sign
def onP (l : Ln) (p : Pt) : Bool := onl l.a l.b l.c l.d l.e l.f p.x p.y p.z p.w
theorem eqOk_pt (p : Pt) : eqOk p.D = true := rfl
theorem eqv_pt (p q : Pt) : eqvD p.D q.D = decide (p = q) := by
  show eqvD (.tup [.int p.x, .int p.y, .int p.z, .int p.w]) (.tup [.int q.x, .int q.y, .int q.z, .int q.w]) = _
  rw [eqv_t4]
  refine decide_eq_decide.mpr ?_
  cases p; cases q
  simp
/-- a point is put in, or taken out -/
def putE (l : Ln) (p : Pt) : List Pt → List Pt
  | [] => [p]
  | q :: r => if ahd l q p < 0 then q :: putE l p r else if q = p then r else p :: q :: r
def placeE (l : Ln) (p : Pt) : List Pt → Bool → Int
  | [], odd => if odd = true then 1 else -1
  | e :: r, odd => if ahd l e p = 0 then 0 else placeE l p r (if ahd l e p < 0 then !odd else odd)
def rowF : List Pt → List D
  | a :: b :: r => .tup [a.D, b.D] :: rowF r
  | _ => []
theorem putE_cons (l : Ln) (p q : Pt) (r : List Pt) : putE l p (q :: r) = if ahd l q p < 0 then q :: putE l p r else if q = p then r else p :: q :: r := rfl
theorem putE_mem (l : Ln) (p : Pt) : ∀ (ps : List Pt) (x : Pt), x ∈ putE l p ps → x = p ∨ x ∈ ps
  | [], x, h => by simp [putE] at h; exact .inl h
  | q :: r, x, h => by
    unfold putE at h
    split at h
    · rcases List.mem_cons.mp h with rfl | h
      · exact .inr (by simp)
      · rcases putE_mem l p r x h with z | z
        · exact .inl z
        · exact .inr (by simp [z])
    · split at h
      · exact .inr (by simp [h])
      · rcases List.mem_cons.mp h with rfl | h
        · exact .inl rfl
        · exact .inr h
theorem putE_len (l : Ln) (p : Pt) : ∀ ps : List Pt, (putE l p ps).length ≤ ps.length + 1
  | [] => by simp [putE]
  | q :: r => by
    have ih := putE_len l p r
    unfold putE
    split
    · simp only [List.length_cons]; omega
    · split
      · simp only [List.length_cons]; omega
      · simp only [List.length_cons]; omega
section
variable {T : Sto} {P : D → Sto → Prop} {X : Xc → Sto → Prop}
noncomputable def sp_ahead : DSp := lock <| sp3 fun u v w T P _ => ∃ (l : Ln) (p q : Pt) (n : Nat), u = l.D ∧ v = p.D ∧ w = q.D ∧ l.B n ∧ p.B n ∧ q.B n ∧ n ≤ 20000 ∧ P (.int (ahd l p q)) T
def d_ahead : DS := (dRet (dCall sp_sign_of (dCons (dSub (dMul (dCall sp_dot (dCons (dVar 0) (dCons (dVar 1) dNil))) (dIx (dVar 2) (dC (.int 3)))) (dMul (dCall sp_dot (dCons (dVar 0) (dCons (dVar 2) dNil))) (dIx (dVar 1) (dC (.int 3))))) dNil)))
theorem pure_ahead {N : List Str} (hN : N.length = 3) : ∀ us T P X, sp_ahead us T P X → d_ahead (dend0 P X) (startD N us) T := by
  intro us T P X h
  obtain ⟨a, b, c, rfl, h1⟩ := sp3.of (lock_of h)
  have e0 : startD N [a, b, c] = [some a, some b, some c] := by unfold startD; rw [hN]; rfl
  rw [e0]; clear e0; unfold d_ahead
  obtain ⟨l, p, q, n, rfl, rfl, rfl, bl, bp, bq, hn, h2⟩ := h1
  obtain ⟨⟨la, lb, lc⟩, _⟩ := bl.mono hn
  obtain ⟨pa, pb, pc, pd⟩ := bp.mono hn
  obtain ⟨qa, qb, qc, qd⟩ := bq.mono hn
  have e1 : ∀ T, seqOf T p.D = some [.int p.x, .int p.y, .int p.z, .int p.w] := fun _ => rfl
  have e2 : ∀ T, seqOf T q.D = some [.int q.x, .int q.y, .int q.z, .int q.w] := fun _ => rfl
  walk_at "dz"
  refine sp_dot_mk l.v3 p.v4.v3 bl.1 (B4.b3 bp) (by omega) ?_
  (simp! only [e1, e2])
  have b1 : Bd 40005 (l.a * p.x + l.b * p.y + l.c * p.z) := by walk_at "bt"
  have b2 : Bd 40005 (l.a * q.x + l.b * q.y + l.c * q.z) := by walk_at "bt"
  refine ⟨by walk_at "mo", ?_⟩
  refine sp_dot_mk l.v3 q.v4.v3 bl.1 (B4.b3 bq) (by omega) ?_
  (simp! only [e1, e2])
  refine ⟨by walk_at "mo", ?_⟩
  exact sp_sign_of_mk h2
theorem sp_ahead_mk {l : Ln} {p q : Pt} {n : Nat} (bl : l.B n) (bp : p.B n) (bq : q.B n) (hn : n ≤ 20000) (h : P (.int (ahd l p q)) T) : sp_ahead [l.D, p.D, q.D] T P X := lock_at ⟨l, p, q, n, rfl, rfl, rfl, bl, bp, bq, hn, h⟩
/-- put_end -/
noncomputable def sp_put_end : DSp := lock <| sp3 fun u v w T P _ => ∃ (l : Ln) (a : Addr) (p : Pt) (ps : List Pt) (n : Nat), u = l.D ∧ v = .ptr a ∧ w = p.D ∧ T a = some (.lst (ps.map Pt.D)) ∧ l.B n ∧ p.B n ∧ (∀ q ∈ ps, q.B n) ∧ n ≤ 20000 ∧ ps.length < 100000 ∧ P .non (updT T a (.lst ((putE l p ps).map Pt.D)))
def d_put_end : DS := (dSeq (dAsg (dC (.int 0)) 3) (dSeq (dWhile (dtAnd (dTst (dLt (dVar 3) (dLen (dVar 1)))) (dTst (dLt (dCall sp_ahead (dCons (dVar 0) (dCons (dIx (dVar 1) (dVar 3)) (dCons (dVar 2) dNil)))) (dC (.int 0))))) (dAug (fun i j => i + j) 3 (dC (.int 1)))) (dIf (dtAnd (dTst (dLt (dVar 3) (dLen (dVar 1)))) (dTst (dEq (dIx (dVar 1) (dVar 3)) (dVar 2)))) (dDrop (dPopAt (dVar 1) (dVar 3))) (dDrop (dIns (dVar 1) (dVar 3) (dVar 2))))))
theorem atI_pts {ps : List Pt} {k : Nat} {p : Pt} (h : ps[k]? = some p) : atI (ps.map Pt.D) (k : Int) = some p.D := atI_nat (by rw [List.getElem?_map, h]; rfl)
theorem pure_put_end {N : List Str} (hN : N.length = 4) : ∀ us T P X, sp_put_end us T P X → d_put_end (dend0 P X) (startD N us) T := by
  intro us T P X h
  obtain ⟨a, b, c, rfl, h1⟩ := sp3.of (lock_of h)
  have e0 : startD N [a, b, c] = [some a, some b, some c, none] := by unfold startD; rw [hN]; rfl
  rw [e0]; clear e0; unfold d_put_end
  obtain ⟨l, a, p, ps, n, rfl, rfl, rfl, ht, bl, bp, bs, hn, hl, h2⟩ := h1
  have em0 : mlst (T a) = some (ps.map Pt.D) := by rw [ht]; rfl
  walk_at "dz"
  refine ⟨fun m ρ T' => ∃ k : Nat, ρ = [some l.D, some (.ptr a), some p.D, some (.int (k : Int))] ∧ T' = T ∧ k ≤ ps.length ∧ putE l p ps = ps.take k ++ putE l p (ps.drop k) ∧ m = ps.length - k, ⟨_, 0, rfl, rfl, by omega, rfl, rfl⟩, ?_⟩
  rintro m ρ T' ⟨k, rfl, rfl, hk, hp, rfl⟩
  (simp! only [em0])
  rw [List.length_map]
  by_cases hc : k < ps.length
  · have eg : ps[k]? = some ps[k] := List.getElem?_eq_getElem hc
    have ed : ps.drop k = ps[k] :: ps.drop (k + 1) := List.drop_eq_getElem_cons hc
    have ei := atI_pts eg
    have bk := bs _ (List.getElem_mem hc)
    rw [ed, putE_cons] at hp
    rw [decide_eq_true (show (k : Int) < (ps.length : Int) by omega)]
    (simp! only [em0, ei])
    refine sp_ahead_mk bl bk bp hn ?_
    walk_at "dz"
    by_cases ha : ahd l ps[k] p < 0
    · rw [decide_eq_true ha]
      rw [if_pos ha] at hp
      walk_at "dz"
      refine ⟨ps.length - (k + 1), by omega, k + 1, by rw [show ((k + 1 : Nat) : Int) = (k : Int) + 1 by omega], by omega, ?_, rfl⟩
      rw [hp, List.take_succ_eq_append_getElem hc, List.append_assoc]
      rfl
    · rw [decide_eq_false ha]
      rw [if_neg ha] at hp
      (simp! only [em0])
      rw [List.length_map, decide_eq_true (show (k : Int) < (ps.length : Int) by omega)]
      (simp! only [em0, ei, eqOk_pt, eqv_pt])
      by_cases he : ps[k] = p
      · rw [decide_eq_true he]
        rw [if_pos he] at hp
        have es : seqIndex? (k : Int) (ps.map Pt.D).length = some k := (ixN_seq (ixN_lit _ k (by rw [List.length_map]; exact hc))).1
        have eg2 : (ps.map Pt.D)[k]? = some ps[k].D := by rw [List.getElem?_map, eg]; rfl
        (simp! only [em0, es, eg2])
        refine ⟨⟨by omega, ?_⟩, ?_⟩
        · have : (k : Int) < 100000 := by omega
          exact Int.lt_trans this (by decide)
        · rw [hp, List.map_append] at h2
          rw [List.eraseIdx_eq_take_drop_succ, ← List.map_take, ← List.map_drop]
          exact h2
      · rw [decide_eq_false he]
        rw [if_neg he] at hp
        (simp! only [em0, dIns, insD])
        refine ⟨⟨by omega, Int.lt_trans (show (k : Int) < 100000 by omega) (by decide)⟩, by rw [List.length_map]; omega, ?_⟩
        rw [hp, List.map_append, List.map_cons, List.map_cons] at h2
        rw [show ((k : Int)).toNat = k by omega, ← List.map_take, ← List.map_drop, ed, List.map_cons, List.append_assoc]
        exact h2
  · have e0 : ps.drop k = [] := List.drop_eq_nil_of_le (by omega)
    rw [e0] at hp
    rw [decide_eq_false (show ¬ (k : Int) < (ps.length : Int) by omega)]
    (simp! only [em0, dIns, insD])
    refine ⟨⟨by omega, Int.lt_trans (show (k : Int) < 100001 by omega) (by decide)⟩, by rw [List.length_map]; omega, ?_⟩
    rw [hp, List.map_append] at h2
    rw [show ((k : Int)).toNat = k by omega, ← List.map_take, ← List.map_drop, e0, List.map_nil, List.append_nil]
    exact h2
theorem sp_put_end_mk {l : Ln} {a : Addr} {p : Pt} {ps : List Pt} {n : Nat} (ht : T a = some (.lst (ps.map Pt.D))) (bl : l.B n) (bp : p.B n) (bs : ∀ q ∈ ps, q.B n) (hn : n ≤ 20000) (hl : ps.length < 100000) (h : P .non (updT T a (.lst ((putE l p ps).map Pt.D)))) : sp_put_end [l.D, .ptr a, p.D] T P X := lock_at ⟨l, a, p, ps, n, rfl, rfl, rfl, ht, bl, bp, bs, hn, hl, h⟩
/-- ends_place -/
noncomputable def sp_ends_place : DSp := lock <| sp3 fun u v w T P _ => ∃ (l : Ln) (p : Pt) (ps : List Pt) (n : Nat), frozen u = some (ps.map Pt.D) ∧ v = l.D ∧ w = p.D ∧ l.B n ∧ p.B n ∧ (∀ q ∈ ps, q.B n) ∧ n ≤ 20000 ∧ P (.int (placeE l p ps false)) T
def b_ends_place : DS := (dSeq (dAsg (dCall sp_ahead (dCons (dVar 1) (dCons (dVar 4) (dCons (dVar 2) dNil)))) 5) (dSeq (dIf (dTst (dEq (dVar 5) (dC (.int 0)))) (dRet (dC (.int 0))) dNext) (dIf (dTst (dLt (dVar 5) (dC (.int 0)))) (dAsg (dNot (dVar 3)) 3) dNext)))
def d_ends_place : DS := (dSeq (dAsg (dC (.bl false)) 3) (dSeq (dFor (dgName 4) (dVar 0) (dSeq (dAsg (dCall sp_ahead (dCons (dVar 1) (dCons (dVar 4) (dCons (dVar 2) dNil)))) 5) (dSeq (dIf (dTst (dEq (dVar 5) (dC (.int 0)))) (dRet (dC (.int 0))) dNext) (dIf (dTst (dLt (dVar 5) (dC (.int 0)))) (dAsg (dNot (dVar 3)) 3) dNext)))) (dSeq (dIf (dTst (dVar 3)) (dRet (dC (.int 1))) dNext) (dRet (dNeg (dC (.int 1)))))))
/-- ends_of, row_from -/
noncomputable def sp_ends_of : DSp := lock <| sp1 fun u T P _ => ∃ ps : List Pt, u = .tup (rowF ps) ∧ ps.length % 2 = 0 ∧ ps.length ≤ 100000 ∧ P (.lst (ps.map Pt.D)) T
def b_ends_of : DS := (dSeq (dDrop (dApp (dVar 1) (dVar 2))) (dDrop (dApp (dVar 1) (dVar 3))))
def d_ends_of : DS := (dSeq (dAsg (dLstM dNil) 1) (dSeq (dFor (dgTup 2 (dgsName 2 (dgsName 3 dgsNil))) (dVar 0) (dSeq (dDrop (dApp (dVar 1) (dVar 2))) (dDrop (dApp (dVar 1) (dVar 3))))) (dRet (dVar 1))))
theorem ends_loop {E : DX} {u : D} {a : Addr} : ∀ (n : Nat) (ps : List Pt) (acc : List D) (a2 a3 : Option D), ps.length = 2 * n → acc.length + ps.length ≤ 900000 → (∀ (a2 a3 : Option D), E.nx [some u, some (.ptr a), a2, a3] (updT T a (.lst (acc ++ ps.map Pt.D)))) →
    forL (dgTup 2 (dgsName 2 (dgsName 3 dgsNil))) b_ends_of E (rowF ps) [some u, some (.ptr a), a2, a3] (updT T a (.lst acc))
  | 0, [], acc, a2, a3, hl, hz, h => by
    have := h a2 a3
    rw [List.map_nil, List.append_nil] at this
    exact this
  | n + 1, x :: y :: ps, acc, a2, a3, hl, hz, h => by
    simp only [List.length_cons] at hl hz
    have ih := ends_loop (E := E) (u := u) (a := a) n ps (acc ++ [x.D] ++ [y.D]) (some x.D) (some y.D) (by omega) (by simp only [List.length_append, List.length_cons, List.length_nil]; omega) (fun a2 a3 => by
      have := h a2 a3
      simpa using this)
    show dgTup 2 (dgsName 2 (dgsName 3 dgsNil)) (.tup [x.D, y.D]) _ _ _ _
    generalize hq : forL (dgTup 2 (dgsName 2 (dgsName 3 dgsNil))) b_ends_of E (rowF ps) = nxt
    rw [hq] at ih
    unfold b_ends_of
    walk_at "dz"
    refine ⟨by omega, ?_, ih⟩
    rw [List.length_append]; simp only [List.length_cons, List.length_nil]; omega
theorem pure_ends_of {K : PySem.W.Frag} {N : List Str} (hN : N.length = 4) : ∀ us T P X, sp_ends_of us T P X → d_ends_of (dend K P X) (startD N us) T := by
  intro us T P X h
  obtain ⟨a, rfl, h1⟩ := sp1.of (lock_of h)
  have e0 : startD N [a] = [some a, none, none, none] := by unfold startD; rw [hN]; rfl
  rw [e0]; clear e0; unfold d_ends_of
  obtain ⟨ps, rfl, h0, hl, h2⟩ := h1
  generalize hb : (dSeq (dDrop (dApp (dVar 1) (dVar 2))) (dDrop (dApp (dVar 1) (dVar 3)))) = bb
  walk_at "dz"
  intro a ha
  subst hb
  refine ends_loop (T := T) (ps.length / 2) ps [] none none (by omega) (by simp; omega) (fun a2 a3 => ?_)
  walk_at "dz"
  refine ⟨_, _, Wk.freeze (ds := ps.map Pt.D) updT_same, ?_⟩
  rw [offT_updT ha]
  exact h2
theorem sp_ends_of_mk {ps : List Pt} (h0 : ps.length % 2 = 0) (hl : ps.length ≤ 100000) (h : P (.lst (ps.map Pt.D)) T) : sp_ends_of [.tup (rowF ps)] T P X := lock_at ⟨ps, rfl, h0, hl, h⟩
noncomputable def sp_row_from : DSp := lock <| sp1 fun u T P _ => ∃ ps : List Pt, u = .lst (ps.map Pt.D) ∧ ps.length % 2 = 0 ∧ ps.length ≤ 100000 ∧ P (.tup (rowF ps)) T
def d_row_from : DS := (dRet (dTuple (dLcR3 1 (dCons (dC (.int 0)) (dCons (dLen (dVar 0)) (dCons (dC (.int 2)) dNil))) (dTup (dCons (dIx (dVar 0) (dVar 1)) (dCons (dIx (dVar 0) (dAdd (dVar 1) (dC (.int 1)))) dNil))))))
theorem row_loop2 {k : List D → Sto → Prop} {ds : List D} : ∀ (n : Nat) (ps pre : List Pt) (acc : List D), ps.length = 2 * n → pre ++ ps = pre ++ ps → ds = (pre ++ ps).map Pt.D → k (acc ++ rowF ps) T →
    lcL 1 (dTup (dCons (dIx (dVar 0) (dVar 1)) (dCons (dIx (dVar 0) (dAdd (dVar 1) (dC (.int 1)))) dNil))) [some (.lst ds), none] k (rngS (pre.length : Int) 2 n) acc T
  | 0, [], pre, acc, hl, _, _, h => by
    unfold rowF at h
    rw [List.append_nil] at h
    exact h
  | n + 1, x :: y :: ps, pre, acc, hl, _, hd, h => by
    simp only [List.length_cons] at hl
    have ih := row_loop2 (k := k) (ds := ds) n ps (pre ++ [x, y]) (acc ++ [.tup [x.D, y.D]]) (by omega) rfl (by rw [hd]; simp) (by
      unfold rowF at h
      rw [List.append_assoc]
      exact h)
    rw [show (((pre ++ [x, y]).length : Nat) : Int) = (pre.length : Int) + 2 by rw [List.length_append]; simp only [List.length_cons, List.length_nil]; omega] at ih
    show dTup _ _ _ _ _
    generalize hq : lcL 1 (dTup (dCons (dIx (dVar 0) (dVar 1)) (dCons (dIx (dVar 0) (dAdd (dVar 1) (dC (.int 1)))) dNil))) [some (.lst ds), none] k (rngS ((pre.length : Int) + 2) 2 n) = nxt
    rw [hq] at ih
    have e1 : atI ds (pre.length : Int) = some x.D := by
      rw [hd]
      exact atI_pts (by rw [List.getElem?_append_right (Nat.le_refl _), Nat.sub_self]; rfl)
    have e2 : atI ds ((pre.length : Int) + 1) = some y.D := by
      rw [hd, show ((pre.length : Int) + 1) = ((pre.length + 1 : Nat) : Int) by omega]
      exact atI_pts (by rw [List.getElem?_append_right (by omega), show pre.length + 1 - pre.length = 1 by omega]; rfl)
    (simp! only [e1, e2])
    exact ih
theorem pure_row_from {N : List Str} (hN : N.length = 2) : ∀ us T P X, sp_row_from us T P X → d_row_from (dend0 P X) (startD N us) T := by
  intro us T P X h
  obtain ⟨a, rfl, h1⟩ := sp1.of (lock_of h)
  have e0 : startD N [a] = [some a, none] := by unfold startD; rw [hN]; rfl
  rw [e0]; clear e0; unfold d_row_from
  obtain ⟨ps, rfl, h0, hl, h2⟩ := h1
  generalize hb : (dTup (dCons (dIx (dVar 0) (dVar 1)) (dCons (dIx (dVar 0) (dAdd (dVar 1) (dC (.int 1)))) dNil))) = bb
  (simp! only [dLcR3])
  rw [List.length_map]
  refine ⟨⟨by omega, by omega⟩, ?_⟩
  rw [show (((ps.length : Int) + 1) / 2).toNat = ps.length / 2 by omega]
  subst hb
  refine row_loop2 (T := T) (ps.length / 2) ps [] [] (by omega) rfl rfl ?_
  walk_at "dz"
  exact h2
theorem sp_row_from_mk {ps : List Pt} (h0 : ps.length % 2 = 0) (hl : ps.length ≤ 100000) (h : P (.tup (rowF ps)) T) : sp_row_from [.lst (ps.map Pt.D)] T P X := lock_at ⟨ps, rfl, h0, hl, h⟩
end
end SY

namespace SY
open PySem PySem.Spec PyProof.Rows L2
/-! ### points along a line -/
def lowP (x y z w : Int) : Pt := ⟨x / (lowBy [x, y, z, w] : Int), y / (lowBy [x, y, z, w] : Int), z / (lowBy [x, y, z, w] : Int), w / (lowBy [x, y, z, w] : Int)⟩
theorem lowP_fac (x y z w : Int) : ∃ s : Int, 0 < s ∧ x = s * (lowP x y z w).x ∧ y = s * (lowP x y z w).y ∧ z = s * (lowP x y z w).z ∧ w = s * (lowP x y z w).w := by
  refine ⟨(lowBy [x, y, z, w] : Int), by have := lowBy_pos [x, y, z, w]; omega, ?_, ?_, ?_, ?_⟩
  · exact (Int.mul_ediv_cancel' (lowBy_dvd (by simp))).symm
  · exact (Int.mul_ediv_cancel' (lowBy_dvd (by simp))).symm
  · exact (Int.mul_ediv_cancel' (lowBy_dvd (by simp))).symm
  · exact (Int.mul_ediv_cancel' (lowBy_dvd (by simp))).symm
theorem lowP_B {n : Nat} {x y z w : Int} (h : B4 n x y z w) : (lowP x y z w).B n := ⟨h.1.ediv, h.2.1.ediv, h.2.2.1.ediv, h.2.2.2.ediv⟩
/-- a line by two of its points, in its own way's order -/
structure Base (l : Ln) (p q : Pt) : Prop where
  g : ∃ g : Int, 0 < g ∧ q.x * p.w - p.x * q.w = g * l.a ∧ q.y * p.w - p.y * q.w = g * l.b ∧ q.z * p.w - p.z * q.w = g * l.c ∧ p.y * q.z - p.z * q.y = g * l.d ∧ p.z * q.x - p.x * q.z = g * l.e ∧ p.x * q.y - p.y * q.x = g * l.f
  ne : l.a ≠ 0 ∨ l.b ≠ 0 ∨ l.c ≠ 0
  pw : 0 < p.w
  qw : 0 < q.w
theorem sq3_pos {a b c : Int} (h : a ≠ 0 ∨ b ≠ 0 ∨ c ≠ 0) : 0 < a * a + b * b + c * c := by
  have sa : 0 ≤ a * a := by rcases Int.le_total 0 a with z | z; exact Int.mul_nonneg z z; exact Int.mul_nonneg_of_nonpos_of_nonpos z z
  have sb : 0 ≤ b * b := by rcases Int.le_total 0 b with z | z; exact Int.mul_nonneg z z; exact Int.mul_nonneg_of_nonpos_of_nonpos z z
  have sc : 0 ≤ c * c := by rcases Int.le_total 0 c with z | z; exact Int.mul_nonneg z z; exact Int.mul_nonneg_of_nonpos_of_nonpos z z
  have key : ∀ x : Int, x ≠ 0 → 0 < x * x := fun x hx => by
    rcases Int.lt_or_gt_of_ne hx with z | z
    · exact Int.mul_pos_of_neg_of_neg z z
    · exact Int.mul_pos z z
  rcases h with z | z | z
  · have := key a z; omega
  · have := key b z; omega
  · have := key c z; omega
def alongP (p q : Pt) (k m : Int) : Pt := lowP (p.x * (q.w * (m - k)) + q.x * (p.w * k)) (p.y * (q.w * (m - k)) + q.y * (p.w * k)) (p.z * (q.w * (m - k)) + q.z * (p.w * k)) (m * p.w * q.w)
theorem sgn_mul {s x : Int} (h : 0 < s) : (s * x).sign = x.sign := by rw [Int.sign_mul, Int.sign_eq_one_of_pos h, Int.one_mul]
theorem dot_pos {l : Ln} {p q : Pt} (b : Base l p q) : 0 < p.w * dotP l q - q.w * dotP l p := by
  obtain ⟨g, g0, h1, h2, h3, _, _, _⟩ := b.g
  have e : p.w * dotP l q - q.w * dotP l p = l.a * (q.x * p.w - p.x * q.w) + l.b * (q.y * p.w - p.y * q.w) + l.c * (q.z * p.w - p.z * q.w) := by unfold dotP; grind
  rw [e, h1, h2, h3]
  have e2 : l.a * (g * l.a) + l.b * (g * l.b) + l.c * (g * l.c) = g * (l.a * l.a + l.b * l.b + l.c * l.c) := by grind
  rw [e2]
  exact Int.mul_pos g0 (sq3_pos b.ne)
theorem ahd_id {l0 l1 l2 x1 y1 z1 w1 x2 y2 z2 w2 s t X1 Y1 Z1 W1 X2 Y2 Z2 W2 : Int} (a1 : X1 = s * x1) (a2 : Y1 = s * y1) (a3 : Z1 = s * z1) (a4 : W1 = s * w1) (b1 : X2 = t * x2) (b2 : Y2 = t * y2) (b3 : Z2 = t * z2) (b4 : W2 = t * w2) :
    (s * t) * ((l0 * x1 + l1 * y1 + l2 * z1) * w2 - (l0 * x2 + l1 * y2 + l2 * z2) * w1) = (l0 * X1 + l1 * Y1 + l2 * Z1) * W2 - (l0 * X2 + l1 * Y2 + l2 * Z2) * W1 := by
  subst a1 a2 a3 a4 b1 b2 b3 b4
  grind
theorem along_id {l0 l1 l2 px py pz pw qx qy qz qw j k m m' : Int} :
    (l0 * (px * (qw * (m - j)) + qx * (pw * j)) + l1 * (py * (qw * (m - j)) + qy * (pw * j)) + l2 * (pz * (qw * (m - j)) + qz * (pw * j))) * (m' * pw * qw) - (l0 * (px * (qw * (m' - k)) + qx * (pw * k)) + l1 * (py * (qw * (m' - k)) + qy * (pw * k)) + l2 * (pz * (qw * (m' - k)) + qz * (pw * k))) * (m * pw * qw)
      = (pw * qw * (pw * (l0 * qx + l1 * qy + l2 * qz) - qw * (l0 * px + l1 * py + l2 * pz))) * (j * m' - k * m) := by grind
theorem ahd_along {l : Ln} {p q : Pt} (b : Base l p q) (j k m m' : Int) : ahd l (alongP p q j m) (alongP p q k m') = (j * m' - k * m).sign := by
  obtain ⟨s, s0, a1, a2, a3, a4⟩ := lowP_fac (p.x * (q.w * (m - j)) + q.x * (p.w * j)) (p.y * (q.w * (m - j)) + q.y * (p.w * j)) (p.z * (q.w * (m - j)) + q.z * (p.w * j)) (m * p.w * q.w)
  obtain ⟨t, t0, b1, b2, b3, b4⟩ := lowP_fac (p.x * (q.w * (m' - k)) + q.x * (p.w * k)) (p.y * (q.w * (m' - k)) + q.y * (p.w * k)) (p.z * (q.w * (m' - k)) + q.z * (p.w * k)) (m' * p.w * q.w)
  have e := ahd_id (l0 := l.a) (l1 := l.b) (l2 := l.c) a1 a2 a3 a4 b1 b2 b3 b4
  rw [along_id] at e
  have dp := dot_pos b
  unfold dotP at dp
  have kp : 0 < p.w * q.w * (p.w * (l.a * q.x + l.b * q.y + l.c * q.z) - q.w * (l.a * p.x + l.b * p.y + l.c * p.z)) := Int.mul_pos (Int.mul_pos b.pw b.qw) dp
  unfold ahd dotP
  rw [← sgn_mul (Int.mul_pos s0 t0)]
  unfold alongP
  rw [e, sgn_mul kp]
/-- on the line, by its sums -/
structure OnL (l : Ln) (p : Pt) : Prop where
  h1 : p.y * l.c - p.z * l.b = p.w * l.d
  h2 : p.z * l.a - p.x * l.c = p.w * l.e
  h3 : p.x * l.b - p.y * l.a = p.w * l.f
theorem along_B {p q : Pt} {k m : Int} (bp : p.B 60) (bq : q.B 60) (bk : Bd 60 k) (bm : Bd 60 m) : (alongP p q k m).B 300 := by
  obtain ⟨pa, pb, pc, pd⟩ := bp
  obtain ⟨qa, qb, qc, qd⟩ := bq
  exact lowP_B ⟨by walk_at "bt", by walk_at "bt", by walk_at "bt", by walk_at "bt"⟩
/-! ### places by odd and even -/
def tog (k : Int) : List Int → List Int
  | [] => [k]
  | e :: r => if e < k then e :: tog k r else if e = k then r else k :: e :: r
theorem putE_map {l : Ln} {p q : Pt} (b : Base l p q) {m : Int} (hm : 0 < m) (k : Int) : ∀ es : List Int, putE l (alongP p q k m) (es.map fun e => alongP p q e m) = (tog k es).map fun e => alongP p q e m
  | [] => rfl
  | e :: r => by
    have ih := putE_map b hm k r
    have ea : ahd l (alongP p q e m) (alongP p q k m) = (e - k).sign := by
      rw [ahd_along b, show e * m - k * m = m * (e - k) by grind, sgn_mul hm]
    rw [List.map_cons, putE_cons, ea]
    unfold tog
    by_cases h1 : e < k
    · rw [if_pos (show (e - k).sign < 0 by rw [Int.sign_eq_neg_one_of_neg (by omega)]; decide), if_pos h1, ih]
      rfl
    · rw [if_neg (by
        have : 0 ≤ (e - k).sign := Int.sign_nonneg_iff.mpr (by omega)
        omega), if_neg h1]
      by_cases h2 : e = k
      · rw [if_pos (by rw [h2]), if_pos h2]
      · rw [if_neg (fun z => by
          rw [z] at ea
          have e0 : ahd l (alongP p q k m) (alongP p q k m) = 0 := by rw [ahd_along b, Int.sub_self]; rfl
          rw [e0] at ea
          have := Int.sign_eq_zero_iff_zero.mp ea.symm
          omega), if_neg h2]
        rfl
def placeZ (b m : Int) : List Int → Bool → Int
  | [], odd => if odd = true then 1 else -1
  | e :: r, odd => if e * m = b then 0 else placeZ b m r (if e * m < b then !odd else odd)
/-- those that come an odd number of times, rising -/
structure Odds (ks es : List Int) : Prop where
  up : es.Pairwise (· < ·)
  mem : ∀ x, x ∈ es ↔ ks.count x % 2 = 1
  par : es.length % 2 = ks.length % 2
theorem tog_mem (k : Int) : ∀ (es : List Int), es.Pairwise (· < ·) → ∀ x, x ∈ tog k es ↔ (if x = k then ¬ k ∈ es else x ∈ es)
  | [], _, x => by
    unfold tog
    by_cases h : x = k <;> simp [h]
  | e :: r, hp, x => by
    have ih := tog_mem k r (List.pairwise_cons.mp hp).2 x
    have hr := (List.pairwise_cons.mp hp).1
    unfold tog
    by_cases h1 : e < k
    · rw [if_pos h1]
      have ek : e ≠ k := by omega
      by_cases hx : x = k
      · rw [if_pos hx] at ih ⊢
        simp only [List.mem_cons]
        constructor
        · rintro (z | z)
          · omega
          · have := ih.mp z
            rintro (z2 | z2)
            · omega
            · exact this z2
        · intro z
          exact .inr (ih.mpr fun z2 => z (.inr z2))
      · rw [if_neg hx] at ih ⊢
        simp only [List.mem_cons]
        rw [ih]
    · rw [if_neg h1]
      by_cases h2 : e = k
      · rw [if_pos h2]
        subst h2
        by_cases hx : x = e
        · rw [if_pos hx]
          subst hx
          constructor
          · intro z
            have := hr x z
            omega
          · intro z
            exact absurd (List.mem_cons_self ..) z
        · rw [if_neg hx]
          simp [hx]
      · rw [if_neg h2]
        have nk : ¬ k ∈ e :: r := fun z => by
          rcases List.mem_cons.mp z with z | z
          · exact h2 z.symm
          · have := hr k z; omega
        by_cases hx : x = k
        · rw [if_pos hx]
          subst hx
          simp [nk]
        · rw [if_neg hx]
          simp [hx]
theorem tog_up (k : Int) : ∀ (es : List Int), es.Pairwise (· < ·) → (tog k es).Pairwise (· < ·)
  | [], _ => by unfold tog; simp
  | e :: r, hp => by
    have hr := (List.pairwise_cons.mp hp)
    have ih := tog_up k r hr.2
    unfold tog
    split
    · rename_i h1
      refine List.pairwise_cons.mpr ⟨fun x hx => ?_, ih⟩
      rw [tog_mem k r hr.2] at hx
      split at hx
      · omega
      · exact hr.1 x hx
    · split
      · exact hr.2
      · refine List.pairwise_cons.mpr ⟨fun x hx => ?_, hp⟩
        rcases List.mem_cons.mp hx with rfl | hx
        · omega
        · have := hr.1 x hx; omega
theorem tog_par (k : Int) : ∀ es : List Int, (tog k es).length % 2 = (es.length + 1) % 2
  | [] => rfl
  | e :: r => by
    have ih := tog_par k r
    unfold tog
    split
    · simp only [List.length_cons]; omega
    · split
      · simp only [List.length_cons]; omega
      · simp only [List.length_cons]
theorem Odds.nil : Odds [] [] := ⟨.nil, fun x => by simp, rfl⟩
theorem Odds.tog {ks es : List Int} (h : Odds ks es) (k : Int) : Odds (ks ++ [k]) (tog k es) := by
  refine ⟨tog_up k es h.up, fun x => ?_, ?_⟩
  · rw [tog_mem k es h.up, List.count_append]
    by_cases hx : x = k
    · rw [if_pos hx]
      subst hx
      rw [h.mem]
      simp
      omega
    · rw [if_neg hx, h.mem]
      have : List.count x [k] = 0 := List.count_eq_zero.mpr (by simp [hx])
      rw [this]
      simp
  · rw [tog_par, List.length_append]
    have := h.par
    simp only [List.length_cons, List.length_nil]
    omega
theorem up_unique : ∀ {a b : List Int}, a.Pairwise (· < ·) → b.Pairwise (· < ·) → (∀ x, x ∈ a ↔ x ∈ b) → a = b
  | [], [], _, _, _ => rfl
  | [], y :: b, _, _, h => absurd ((h y).mpr (by simp)) (by simp)
  | x :: a, [], _, _, h => absurd ((h x).mp (by simp)) (by simp)
  | x :: a, y :: b, ha, hb, h => by
    have pa := List.pairwise_cons.mp ha
    have pb := List.pairwise_cons.mp hb
    have exy : x = y := by
      rcases List.mem_cons.mp ((h x).mp (by simp)) with z | z
      · exact z
      · rcases List.mem_cons.mp ((h y).mpr (by simp)) with z2 | z2
        · exact z2.symm
        · have h1 := pb.1 x z
          have h2 := pa.1 y z2
          omega
    subst exy
    have : a = b := up_unique pa.2 pb.2 fun z => by
      constructor
      · intro hz
        rcases List.mem_cons.mp ((h z).mp (by simp [hz])) with e | e
        · have := pa.1 z hz; omega
        · exact e
      · intro hz
        rcases List.mem_cons.mp ((h z).mpr (by simp [hz])) with e | e
        · have := pb.1 z hz; omega
        · exact e
    rw [this]
end SY

namespace SY
open PySem PySem.Spec PyProof.Rows L2
/-! ### what two sets on a line have in common -/
def outE (w : Bool) (w' : Bool) (p : Pt) : List Pt := if w ≠ w' then [p] else []
def comE (l : Ln) : Nat → Bool → Bool → List Pt → List Pt → List Pt
  | n + 1, a, b, x :: xs, y :: ys => if ahd l x y < 0 then outE (a && b) (!a && b) x ++ comE l n (!a) b xs (y :: ys) else if ahd l x y = 0 then outE (a && b) (!a && !b) x ++ comE l n (!a) (!b) xs ys else outE (a && b) (a && !b) y ++ comE l n a (!b) (x :: xs) ys
  | _, _, _, _, _ => []
theorem comE_s (l : Ln) (n : Nat) (a b : Bool) (x y : Pt) (xs ys : List Pt) : comE l (n + 1) a b (x :: xs) (y :: ys) = if ahd l x y < 0 then outE (a && b) (!a && b) x ++ comE l n (!a) b xs (y :: ys) else if ahd l x y = 0 then outE (a && b) (!a && !b) x ++ comE l n (!a) (!b) xs ys else outE (a && b) (a && !b) y ++ comE l n a (!b) (x :: xs) ys := rfl
theorem comE_n1 (l : Ln) (n : Nat) (a b : Bool) (ys : List Pt) : comE l n a b [] ys = [] := by cases n <;> rfl
theorem comE_n2 (l : Ln) (n : Nat) (a b : Bool) (xs : List Pt) : comE l n a b xs [] = [] := by cases n <;> cases xs <;> rfl
theorem outE_len (w w' : Bool) (p : Pt) : (outE w w' p).length ≤ 1 := by
  unfold outE
  split <;> simp
theorem comE_len (l : Ln) : ∀ (n : Nat) (a b : Bool) (xs ys : List Pt), (comE l n a b xs ys).length ≤ n
  | 0, a, b, xs, ys => Nat.le_refl _
  | n + 1, a, b, [], ys => Nat.zero_le _
  | n + 1, a, b, x :: xs, [] => Nat.zero_le _
  | n + 1, a, b, x :: xs, y :: ys => by
    rw [comE_s]
    have h1 := comE_len l n (!a) b xs (y :: ys)
    have h2 := comE_len l n (!a) (!b) xs ys
    have h3 := comE_len l n a (!b) (x :: xs) ys
    have o1 := outE_len (a && b) (!a && b) x
    have o2 := outE_len (a && b) (!a && !b) x
    have o3 := outE_len (a && b) (a && !b) y
    split
    · rw [List.length_append]; omega
    · split
      · rw [List.length_append]; omega
      · rw [List.length_append]; omega
theorem comE_more {l : Ln} : ∀ {n : Nat} {a b : Bool} {xs ys : List Pt}, xs.length + ys.length ≤ n → comE l n a b xs ys = comE l (n + 1) a b xs ys
  | n, a, b, [], ys, h => by rw [comE_n1, comE_n1]
  | n, a, b, x :: xs, [], h => by rw [comE_n2, comE_n2]
  | 0, a, b, x :: xs, y :: ys, h => by simp at h
  | n + 1, a, b, x :: xs, y :: ys, h => by
    simp only [List.length_cons] at h
    rw [comE_s, comE_s, ← comE_more (n := n) (xs := xs) (ys := y :: ys) (by simp only [List.length_cons]; omega), ← comE_more (n := n) (xs := xs) (ys := ys) (by omega), ← comE_more (n := n) (xs := x :: xs) (ys := ys) (by simp only [List.length_cons]; omega)]
def oddN (i : Nat) : Bool := decide (i % 2 = 1)
theorem oddN_s (i : Nat) : oddN (i + 1) = !oddN i := by
  unfold oddN
  by_cases h : i % 2 = 1
  · rw [decide_eq_true h, decide_eq_false (by omega)]; rfl
  · rw [decide_eq_false h, decide_eq_true (by omega)]; rfl
section
variable {T : Sto} {P : D → Sto → Prop} {X : Xc → Sto → Prop}
theorem two_odd {i j : Nat} {u0 u1 u2 u3 u6 u7 u8 : Option D} (h : P (.bl (oddN i && oddN j)) T) : (dAnd (dEq (dMod (dVar 4) (dC (.int 2))) (dC (.int 1))) (dEq (dMod (dVar 5) (dC (.int 2))) (dC (.int 1)))) [u0, u1, u2, u3, some (.int (i : Int)), some (.int (j : Int)), u6, u7, u8] T P X := by
  have e : ∀ k : Nat, decide ((k : Int) % 2 = 1) = oddN k := fun k => by
    unfold oddN
    exact decide_eq_decide.mpr (by omega)
  (simp! only [eqOk_int, eqv_int])
  rw [e i]
  cases hi : oddN i
  · rw [hi] at h
    walk_at "dz"
    exact h
  · rw [hi] at h
    (simp! only [eqOk_int, eqv_int])
    rw [e j]
    exact h
noncomputable def sp_common_ends : DSp := lock <| sp3 fun a u v T P _ => ∃ (l : Ln) (xs ys : List Pt), a = l.D ∧ u = .lst (xs.map Pt.D) ∧ v = .lst (ys.map Pt.D) ∧ l.B 8000 ∧ (∀ z ∈ xs, z.B 8000) ∧ (∀ z ∈ ys, z.B 8000) ∧ xs.length ≤ 100000 ∧ ys.length ≤ 100000 ∧ P (.lst ((comE l (xs.length + ys.length) false false xs ys).map Pt.D)) T
def d_common_ends : DS := (dSeq (dAsg (dLstM dNil) 3) (dSeq (dAsg (dC (.int 0)) 4) (dSeq (dAsg (dC (.int 0)) 5) (dSeq (dWhile (dtAnd (dTst (dLt (dVar 4) (dLen (dVar 1)))) (dTst (dLt (dVar 5) (dLen (dVar 2))))) (dSeq (dAsg (dAnd (dEq (dMod (dVar 4) (dC (.int 2))) (dC (.int 1))) (dEq (dMod (dVar 5) (dC (.int 2))) (dC (.int 1)))) 6) (dSeq (dAsg (dCall sp_ahead (dCons (dVar 0) (dCons (dIx (dVar 1) (dVar 4)) (dCons (dIx (dVar 2) (dVar 5)) dNil)))) 7) (dSeq (dAsg (dIx (dVar 2) (dVar 5)) 8) (dSeq (dIf (dTst (dLe (dVar 7) (dC (.int 0)))) (dSeq (dAsg (dIx (dVar 1) (dVar 4)) 8) (dAug (fun i j => i + j) 4 (dC (.int 1)))) dNext) (dSeq (dIf (dTst (dGe (dVar 7) (dC (.int 0)))) (dAug (fun i j => i + j) 5 (dC (.int 1))) dNext) (dIf (dTst (dNe (dVar 6) (dAnd (dEq (dMod (dVar 4) (dC (.int 2))) (dC (.int 1))) (dEq (dMod (dVar 5) (dC (.int 2))) (dC (.int 1)))))) (dDrop (dApp (dVar 3) (dVar 8))) dNext))))))) (dRet (dVar 3))))))
def b_com : DS := (dSeq (dAsg (dAnd (dEq (dMod (dVar 4) (dC (.int 2))) (dC (.int 1))) (dEq (dMod (dVar 5) (dC (.int 2))) (dC (.int 1)))) 6) (dSeq (dAsg (dCall sp_ahead (dCons (dVar 0) (dCons (dIx (dVar 1) (dVar 4)) (dCons (dIx (dVar 2) (dVar 5)) dNil)))) 7) (dSeq (dAsg (dIx (dVar 2) (dVar 5)) 8) (dSeq (dIf (dTst (dLe (dVar 7) (dC (.int 0)))) (dSeq (dAsg (dIx (dVar 1) (dVar 4)) 8) (dAug (fun i j => i + j) 4 (dC (.int 1)))) dNext) (dSeq (dIf (dTst (dGe (dVar 7) (dC (.int 0)))) (dAug (fun i j => i + j) 5 (dC (.int 1))) dNext) (dIf (dTst (dNe (dVar 6) (dAnd (dEq (dMod (dVar 4) (dC (.int 2))) (dC (.int 1))) (dEq (dMod (dVar 5) (dC (.int 2))) (dC (.int 1)))))) (dDrop (dApp (dVar 3) (dVar 8))) dNext))))))
theorem comB_out {bo : DE} {E : DX} {a : Addr} {acc : List Pt} {p : Pt} {i j : Nat} {w : Bool} {u0 u1 u2 u7 : Option D} (hl : acc.length < 400000) (hm : mlst (T a) = some (acc.map Pt.D))
    (hb : ∀ (u6 u7 u8 : Option D) (P : D → Sto → Prop) (X : Xc → Sto → Prop), P (.bl (oddN i && oddN j)) T → bo [u0, u1, u2, some (.ptr a), some (.int (i : Int)), some (.int (j : Int)), u6, u7, u8] T P X)
    (h : ∀ T1, (∀ x, x ≠ a → T1 x = T x) → T1 a = some (.lst ((acc ++ outE w (oddN i && oddN j) p).map Pt.D)) → E.nx [u0, u1, u2, some (.ptr a), some (.int (i : Int)), some (.int (j : Int)), some (.bl w), u7, some p.D] T1) (ht : T a = some (.lst (acc.map Pt.D))) :
    (dIf (dTst (dNe (dVar 6) bo)) (dDrop (dApp (dVar 3) (dVar 8))) dNext) E [u0, u1, u2, some (.ptr a), some (.int (i : Int)), some (.int (j : Int)), some (.bl w), u7, some p.D] T := by
  walk_at "dz"
  refine hb _ _ _ _ _ ?_
  (simp! only [eqOk_bl])
  unfold outE at h
  generalize (oddN i && oddN j) = v at *
  by_cases hw : w = v
  · rw [if_neg (fun q => q hw), List.append_nil] at h
    rw [if_neg (by rw [eqv_bl, hw]; cases v <;> simp)]
    exact h T (fun _ _ => rfl) ht
  · rw [if_pos hw] at h
    rw [if_pos (by rw [eqv_bl]; cases w <;> cases v <;> simp at hw ⊢)]
    (simp! only [hm])
    refine ⟨by rw [List.length_map]; omega, ?_⟩
    refine h _ (fun x hx => updT_ne hx) ?_
    rw [updT_same, List.map_append]
    rfl
theorem pure_common_ends {K : PySem.W.Frag} {N : List Str} (hN : N.length = 9) : ∀ us T P X, sp_common_ends us T P X → d_common_ends (dend K P X) (startD N us) T := by
  intro us T P X h
  obtain ⟨a, b, c, rfl, h1⟩ := sp3.of (lock_of h)
  have e0 : startD N [a, b, c] = [some a, some b, some c, none, none, none, none, none, none] := by unfold startD; rw [hN]; rfl
  rw [e0]; clear e0; unfold d_common_ends
  obtain ⟨l, xs, ys, rfl, rfl, rfl, bl, bx, by', lx, ly, h2⟩ := h1
  generalize hbo : (dAnd (dEq (dMod (dVar 4) (dC (.int 2))) (dC (.int 1))) (dEq (dMod (dVar 5) (dC (.int 2))) (dC (.int 1)))) = bo
  have hb : ∀ (T : Sto) (i j : Nat) (u0 u1 u2 u3 u6 u7 u8 : Option D) (P : D → Sto → Prop) (X : Xc → Sto → Prop), P (.bl (oddN i && oddN j)) T → bo [u0, u1, u2, u3, some (.int (i : Int)), some (.int (j : Int)), u6, u7, u8] T P X := fun T i j u0 u1 u2 u3 u6 u7 u8 P X h => by
    rw [← hbo]; exact two_odd h
  clear hbo
  generalize htl : (dIf (dTst (dNe (dVar 6) bo)) (dDrop (dApp (dVar 3) (dVar 8))) dNext) = tl
  walk_at "dz"
  intro f hf
  refine ⟨fun m ρ T' => ∃ (i j : Nat) (a6 a7 a8 : Option D) (acc : List Pt), m = (xs.length - i) + (ys.length - j) ∧ i ≤ xs.length ∧ j ≤ ys.length ∧ ρ = [some l.D, some (.lst (xs.map Pt.D)), some (.lst (ys.map Pt.D)), some (.ptr f), some (.int (i : Int)), some (.int (j : Int)), a6, a7, a8] ∧ T' f = some (.lst (acc.map Pt.D)) ∧ (∀ x, x ≠ f → T' x = T x) ∧ acc ++ comE l m (oddN i) (oddN j) (xs.drop i) (ys.drop j) = comE l (xs.length + ys.length) false false xs ys, ⟨_, 0, 0, none, none, none, [], rfl, by omega, by omega, rfl, updT_same, fun x hx => updT_ne hx, rfl⟩, ?_⟩
  rintro m ρ T' ⟨i, j, a6, a7, a8, acc, rfl, hi, hj, rfl, tf, tk, hc⟩
  have em : mlst (T' f) = some (acc.map Pt.D) := by rw [tf]; rfl
  have cl := comE_len l (xs.length + ys.length) false false xs ys
  rw [← hc, List.length_append] at cl
  have fin : ¬ (i < xs.length ∧ j < ys.length) → acc = comE l (xs.length + ys.length) false false xs ys := fun q => by
    rw [← hc]
    by_cases q1 : i < xs.length
    · rw [List.drop_eq_nil_of_le (show ys.length ≤ j by omega), comE_n2, List.append_nil]
    · rw [List.drop_eq_nil_of_le (show xs.length ≤ i by omega), comE_n1, List.append_nil]
  have done : ¬ (i < xs.length ∧ j < ys.length) → (dend K P X).rt (.ptr f) T' := fun q => by
    refine ⟨_, _, (Wk.freeze (ds := acc.map Pt.D) tf).trans (Wk.drop (T' := T) fun x m e => ?_), ?_⟩
    · have : x ≠ f := fun z => by rw [z, hf] at e; cases e
      unfold offT
      rw [if_neg this, tk x this]
      exact e
    · rw [fin q]; exact h2
  (simp! only [em])
  rw [List.length_map]
  by_cases q1 : i < xs.length
  · rw [decide_eq_true (show (i : Int) < (xs.length : Int) by omega)]
    walk_at "dz"
    rw [List.length_map]
    by_cases q2 : j < ys.length
    · rw [decide_eq_true (show (j : Int) < (ys.length : Int) by omega)]
      have ex := List.getElem?_eq_getElem q1
      have ey := List.getElem?_eq_getElem q2
      have eix := atI_pts ex
      have eiy := atI_pts ey
      have edx : xs.drop i = xs[i] :: xs.drop (i + 1) := List.drop_eq_getElem_cons q1
      have edy : ys.drop j = ys[j] :: ys.drop (j + 1) := List.drop_eq_getElem_cons q2
      have mx := bx _ (List.getElem_mem q1)
      have my := by' _ (List.getElem_mem q2)
      have eN : (xs.length - i) + (ys.length - j) = ((xs.length - (i + 1)) + (ys.length - j)) + 1 := by omega
      rw [eN] at hc
      rw [edx, edy, comE_s] at hc
      generalize xs[i] = x at *
      generalize ys[j] = y at *
      have ei1 : (i : Int) + 1 = ((i + 1 : Nat) : Int) := by omega
      have ej1 : (j : Int) + 1 = ((j + 1 : Nat) : Int) := by omega
      walk_at "dz"
      refine hb _ _ _ _ _ _ _ _ _ _ _ _ ?_
      (simp! only [eix, eiy])
      refine sp_ahead_mk bl mx my (by omega) ?_
      (simp! only [eix, eiy])
      by_cases c1 : ahd l x y < 0
      · rw [if_pos c1] at hc
        rw [decide_eq_true (show ahd l x y ≤ 0 by omega)]
        (simp! only [eix, eiy])
        rw [decide_eq_false (show ¬ 0 ≤ ahd l x y by omega)]
        (simp! only [eix, eiy])
        rw [ei1]
        subst htl
        refine comB_out (by omega) em (fun u6 u7 u8 P X h => hb _ _ _ _ _ _ _ _ _ _ P X h) (fun T1 k1 k2 => ?_) tf
        refine ⟨(xs.length - (i + 1)) + (ys.length - j), by omega, i + 1, j, _, _, _, _, rfl, by omega, by omega, rfl, k2, fun z hz => by rw [k1 z hz, tk z hz], ?_⟩
        rw [← hc, oddN_s, edy, List.append_assoc]
      · rw [if_neg c1] at hc
        by_cases c2 : ahd l x y = 0
        · rw [if_pos c2] at hc
          rw [decide_eq_true (show ahd l x y ≤ 0 by omega)]
          (simp! only [eix, eiy])
          rw [decide_eq_true (show 0 ≤ ahd l x y by omega)]
          (simp! only [eix, eiy])
          rw [ei1, ej1]
          subst htl
          refine comB_out (by omega) em (fun u6 u7 u8 P X h => hb _ _ _ _ _ _ _ _ _ _ P X h) (fun T1 k1 k2 => ?_) tf
          refine ⟨(xs.length - (i + 1)) + (ys.length - (j + 1)), by omega, i + 1, j + 1, _, _, _, _, rfl, by omega, by omega, rfl, k2, fun z hz => by rw [k1 z hz, tk z hz], ?_⟩
          rw [← hc, oddN_s, oddN_s, List.append_assoc]
          congr 2
          have : (xs.length - (i + 1)) + (ys.length - j) = ((xs.length - (i + 1)) + (ys.length - (j + 1))) + 1 := by omega
          rw [this]
          exact comE_more (by rw [List.length_drop, List.length_drop]; omega)
        · rw [if_neg c2] at hc
          rw [decide_eq_false (show ¬ ahd l x y ≤ 0 by omega)]
          (simp! only [eix, eiy])
          rw [decide_eq_true (show 0 ≤ ahd l x y by omega)]
          (simp! only [eix, eiy])
          rw [ej1]
          subst htl
          refine comB_out (by omega) em (fun u6 u7 u8 P X h => hb _ _ _ _ _ _ _ _ _ _ P X h) (fun T1 k1 k2 => ?_) tf
          refine ⟨(xs.length - i) + (ys.length - (j + 1)), by omega, i, j + 1, _, _, _, _, rfl, by omega, by omega, rfl, k2, fun z hz => by rw [k1 z hz, tk z hz], ?_⟩
          rw [← hc, oddN_s, edx, List.append_assoc]
          congr 2
          have : (xs.length - i) + (ys.length - (j + 1)) = (xs.length - (i + 1)) + (ys.length - j) := by omega
          rw [this]
    · rw [decide_eq_false (show ¬ (j : Int) < (ys.length : Int) by omega)]
      walk_at "dz"
      exact done (fun q => q2 q.2)
  · rw [decide_eq_false (show ¬ (i : Int) < (xs.length : Int) by omega)]
    walk_at "dz"
    exact done (fun q => q1 q.1)
theorem sp_common_ends_mk {l : Ln} {xs ys : List Pt} (bl : l.B 8000) (bx : ∀ z ∈ xs, z.B 8000) (by' : ∀ z ∈ ys, z.B 8000) (lx : xs.length ≤ 100000) (ly : ys.length ≤ 100000) (h : P (.lst ((comE l (xs.length + ys.length) false false xs ys).map Pt.D)) T) : sp_common_ends [l.D, .lst (xs.map Pt.D), .lst (ys.map Pt.D)] T P X := lock_at ⟨l, xs, ys, rfl, rfl, rfl, bl, bx, by', lx, ly, h⟩
end
end SY

namespace SY
open PySem PySem.Spec PyProof.Rows L2
/-! ### points along a line by their numbers (k15) -/
section
variable {T : Sto} {P : D → Sto → Prop} {X : Xc → Sto → Prop} {dg : DG} {sb : DS} {E : DX} {ρ : Env}
def pairD (p : Pt × Pt) : D := .tup [p.1.D, p.2.D]
theorem pt_ne14 {m n : Nat} {p0 p1 p2 p3 q0 q1 q2 q3 : Int} (hp : IsPt m p0 p1 p2 p3) (hq : IsPt n q0 q1 q2 q3) (hne : [p0, p1, p2, p3] ≠ [q0, q1, q2, q3]) : z3 (q0 * p3 - p0 * q3) (q1 * p3 - p1 * q3) (q2 * p3 - p2 * q3) = false := by
  cases hz : z3 (q0 * p3 - p0 * q3) (q1 * p3 - p1 * q3) (q2 * p3 - p2 * q3) with
  | false => rfl
  | true =>
    obtain ⟨h1, h2, h3⟩ := z3_t hz
    refine absurd (low_unique (s := q3) (t := p3) hp.2.1 hq.2.1 hq.1 hp.1 ?_) hne
    simp only [List.map_cons, List.map_nil, List.cons.injEq, and_true]
    refine ⟨?_, ?_, ?_, Int.mul_comm _ _⟩
    · rw [Int.mul_comm q3, Int.mul_comm p3]; omega
    · rw [Int.mul_comm q3, Int.mul_comm p3]; omega
    · rw [Int.mul_comm q3, Int.mul_comm p3]; omega
noncomputable def sp_l_line_by : DSp := lock <| sp1 fun a T P _ => ∃ r, a = .ptr r ∧ T r = some .row ∧ ∀ (l : Ln) (p q : Pt) (m : Int), Base l p q → l.B 150 → p.B 60 → q.B 60 → 1 ≤ m → m ≤ 3 → P (.lst [l.D, p.D, q.D, .int m]) T
def d_l_line_by : DS := (dSeq (dAsgG (dCall sp_l_two (dCons (dVar 0) dNil)) (dgTup 2 (dgsName 1 (dgsName 2 dgsNil)))) (dSeq (dAsg (dCall sp_l_line (dCons (dVar 1) (dCons (dVar 2) dNil))) 3) (dSeq (dIf (dTst (dLt (dCall sp_dot (dCons (dVar 3) (dCons (dCall sp_l_arrow (dCons (dVar 1) (dCons (dVar 2) dNil))) dNil))) (dC (.int 0)))) (dPar 1 2 (dCons (dVar 2) (dCons (dVar 1) dNil))) dNext) (dRet (dLst (dCons (dVar 3) (dCons (dVar 1) (dCons (dVar 2) (dCons (dAdd (dC (.int 1)) (dCall sp_l_take (dCons (dVar 0) (dCons (dC (.int 3)) dNil)))) dNil)))))))))
theorem sgn_dot {l : Ln} {u v w g : Int} (h1 : u = g * l.a) (h2 : v = g * l.b) (h3 : w = g * l.c) : l.a * u + l.b * v + l.c * w = g * (l.a * l.a + l.b * l.b + l.c * l.c) := by
  subst h1 h2 h3
  grind
theorem pure_l_line_by {N : List Str} (hN : N.length = 4) : ∀ us T P X, sp_l_line_by us T P X → d_l_line_by (dend0 P X) (startD N us) T := by
  intro us T P X h
  obtain ⟨a, rfl, h1⟩ := sp1.of (lock_of h)
  have e0 : startD N [a] = [some a, none, none, none] := by unfold startD; rw [hN]; rfl
  rw [e0]; clear e0; unfold d_l_line_by
  obtain ⟨r, rfl, hr, h2⟩ := h1
  walk_at "dz"
  refine sp_l_two_mk hr fun p0 p1 p2 p3 q0 q1 q2 q3 hp hq hne => ?_
  walk_at "dz"
  obtain ⟨pa, pb, pc, pd⟩ := hp.2.2
  obtain ⟨qa, qb, qc, qd⟩ := hq.2.2
  refine sp_l_line_mk ⟨_, rfl⟩ ⟨_, rfl⟩ hp.2.2 hq.2.2 (by decide) ?_
  obtain ⟨l0, l1, l2, l3, l4, l5, g, eq6, g0, ea, eb, ec, ed, ee, ef, b6⟩ := flip_low (n := 150) (a := q0 * p3 - p0 * q3) (b := q1 * p3 - p1 * q3) (c := q2 * p3 - p2 * q3) (d := p1 * q2 - p2 * q1) (e := p2 * q0 - p0 * q2) (f := p0 * q1 - p1 * q0) ⟨⟨by walk_at "bt", by walk_at "bt", by walk_at "bt"⟩, by walk_at "bt", by walk_at "bt", by walk_at "bt"⟩
  rw [eq6]
  have hz := z3_f (pt_ne14 hp hq hne)
  have ne : l0 ≠ 0 ∨ l1 ≠ 0 ∨ l2 ≠ 0 := by
    rcases hz with z | z | z
    · refine .inl fun e => z ?_; rw [ea, e, Int.mul_zero]
    · refine .inr (.inl fun e => z ?_); rw [eb, e, Int.mul_zero]
    · refine .inr (.inr fun e => z ?_); rw [ec, e, Int.mul_zero]
  walk_at "dz"
  refine sp_l_arrow_mk ⟨_, rfl⟩ ⟨_, rfl⟩ hp.2.2 hq.2.2 (by decide) ?_
  walk_at "dz"
  refine sp_dot_mk (u0 := l0) (u1 := l1) (u2 := l2) (n := 150) ⟨_, rfl⟩ ⟨_, rfl⟩ b6.1 ⟨by walk_at "bt", by walk_at "bt", by walk_at "bt"⟩ (by decide) ?_
  walk_at "dz"
  have e := sgn_dot (l := ⟨l0, l1, l2, l3, l4, l5⟩) ea eb ec
  have e' : l0 * (q0 * p3 - p0 * q3) + l1 * (q1 * p3 - p1 * q3) + l2 * (q2 * p3 - p2 * q3) = g * (l0 * l0 + l1 * l1 + l2 * l2) := e
  have sp := sq3_pos ne
  rw [e']
  by_cases hg : g < 0
  · rw [decide_eq_true (show g * (l0 * l0 + l1 * l1 + l2 * l2) < 0 from Int.mul_neg_of_neg_of_pos hg sp)]
    walk_at "dz"
    refine sp_take_mk hr (by decide) (Bd.lit (by decide)) fun k k0 k1 => ?_
    walk_at "dz"
    refine h2 ⟨l0, l1, l2, l3, l4, l5⟩ ⟨q0, q1, q2, q3⟩ ⟨p0, p1, p2, p3⟩ (1 + k) ⟨⟨-g, by omega, ?_, ?_, ?_, ?_, ?_, ?_⟩, ne, hq.1, hp.1⟩ b6 hq.2.2 hp.2.2 (by omega) (by omega)
    · show p0 * q3 - q0 * p3 = -g * l0
      rw [Int.neg_mul]; omega
    · show p1 * q3 - q1 * p3 = -g * l1
      rw [Int.neg_mul]; omega
    · show p2 * q3 - q2 * p3 = -g * l2
      rw [Int.neg_mul]; omega
    · show q1 * p2 - q2 * p1 = -g * l3
      rw [Int.neg_mul, ← ed]; grind
    · show q2 * p0 - q0 * p2 = -g * l4
      rw [Int.neg_mul, ← ee]; grind
    · show q0 * p1 - q1 * p0 = -g * l5
      rw [Int.neg_mul, ← ef]; grind
  · have gp : 0 < g := by omega
    rw [decide_eq_false (show ¬ g * (l0 * l0 + l1 * l1 + l2 * l2) < 0 by have := Int.mul_pos gp sp; omega)]
    walk_at "dz"
    refine sp_take_mk hr (by decide) (Bd.lit (by decide)) fun k k0 k1 => ?_
    walk_at "dz"
    exact h2 ⟨l0, l1, l2, l3, l4, l5⟩ ⟨p0, p1, p2, p3⟩ ⟨q0, q1, q2, q3⟩ (1 + k) ⟨⟨g, gp, ea, eb, ec, ed, ee, ef⟩, ne, hp.1, hq.1⟩ b6 hp.2.2 hq.2.2 (by omega) (by omega)
theorem sp_l_line_by_mk {r : Addr} (hr : T r = some .row) (h : ∀ (l : Ln) (p q : Pt) (m : Int), Base l p q → l.B 150 → p.B 60 → q.B 60 → 1 ≤ m → m ≤ 3 → P (.lst [l.D, p.D, q.D, .int m]) T) : sp_l_line_by [.ptr r] T P X := lock_at ⟨r, rfl, hr, h⟩
noncomputable def sp_l_spots : DSp := lock <| sp1 fun a T P _ => ∃ r, a = .ptr r ∧ T r = some .row ∧ ∀ ks : List Int, ks.length % 2 = 0 → ks.length ≤ 48 → (∀ k ∈ ks, Bd 32 k) → P (.lst (ks.map .int)) T
def d_l_spots_t2 : DS := (dRet (dLcR 3 (dCons (dVar 2) dNil) (dSub (dCall sp_l_take (dCons (dVar 0) (dCons (dAdd (dMul (dC (.int 2)) (dVar 1)) (dC (.int 1))) dNil))) (dVar 1))))
def d_l_spots_t1 : DS := (dSeq (dAsg (dMul (dC (.int 2)) (dCall sp_l_take (dCons (dVar 0) (dCons (dIx (dLst (dCons (dC (.int 5)) (dCons (dC (.int 13)) (dCons (dC (.int 25)) dNil)))) (dCall sp_l_take (dCons (dVar 0) (dCons (dC (.int 3)) dNil)))) dNil)))) 2) d_l_spots_t2)
def d_l_spots : DS := (dSeq (dAsg (dIx (dLst (dCons (dC (.int 4)) (dCons (dC (.int 12)) (dCons (dC (.int 60)) (dCons (dPow (dC (.int 10)) (dC (.int 9))) dNil))))) (dCall sp_l_take (dCons (dVar 0) (dCons (dC (.int 4)) dNil)))) 1) d_l_spots_t1)
theorem spots_loop {r : Addr} {m : Int} {x y : Option D} {k : List D → Sto → Prop} (hr : T r = some .row) (m0 : 0 < m) (bm : m ≤ 1000000000) : ∀ (n : Nat) (lo : Int) (acc : List Int), (∀ z ∈ acc, Bd 32 z) → (∀ ks : List Int, ks.length = acc.length + n → (∀ z ∈ ks, Bd 32 z) → k (ks.map .int) T) →
    lcL 3 (dSub (dCall sp_l_take (dCons (dVar 0) (dCons (dAdd (dMul (dC (.int 2)) (dVar 1)) (dC (.int 1))) dNil))) (dVar 1)) [some (.ptr r), some (.int m), x, none] k (rngL lo n) (acc.map .int) T
  | 0, lo, acc, ba, h => h acc rfl ba
  | n + 1, lo, acc, ba, h => by
    have ih := fun z (hz : Bd 32 z) => spots_loop (k := k) (x := x) (y := y) hr m0 bm n (lo + 1) (acc ++ [z]) (fun w hw => by
      rcases List.mem_append.mp hw with hw | hw
      · exact ba w hw
      · have : w = z := by simpa using hw
        rw [this]; exact hz) (fun ks hk hb => h ks (by rw [hk, List.length_append]; simp only [List.length_cons, List.length_nil]; omega) hb)
    simp only [List.map_append, List.map_cons, List.map_nil] at ih
    show dSub _ _ _ _ _ _
    generalize hq : lcL 3 (dSub (dCall sp_l_take (dCons (dVar 0) (dCons (dAdd (dMul (dC (.int 2)) (dVar 1)) (dC (.int 1))) dNil))) (dVar 1)) [some (.ptr r), some (.int m), x, none] k (rngL (lo + 1) n) = nxt
    rw [hq] at ih
    walk_at "dz"
    refine ⟨mulOk_l (by decide), ?_⟩
    refine sp_take_mk hr (by omega) (Bd.rng (m := 2 ^ 40) (by omega) (by omega) (Bd.lit (by decide))) fun j j0 j1 => ?_
    walk_at "dz"
    exact ih _ (Bd.rng (m := 1000000000) (by omega) (by omega) (Bd.lit (by decide)))
theorem spots_end {r : Addr} {m n : Int} (hr : T r = some .row) (m0 : 0 < m) (bm : m ≤ 1000000000) (n0 : 0 ≤ n) (n1 : n ≤ 24) (h2 : ∀ ks : List Int, ks.length % 2 = 0 → ks.length ≤ 48 → (∀ k ∈ ks, Bd 32 k) → P (.lst (ks.map .int)) T) : d_l_spots_t2 (dend0 P X) [some (.ptr r), some (.int m), some (.int (2 * n)), none] T := by
  unfold d_l_spots_t2
  generalize hb : (dSub (dCall sp_l_take (dCons (dVar 0) (dCons (dAdd (dMul (dC (.int 2)) (dVar 1)) (dC (.int 1))) dNil))) (dVar 1)) = bb
  walk_at "dz"
  refine ⟨⟨by omega, by omega⟩, ?_⟩
  subst hb
  refine spots_loop (acc := []) (y := none) hr m0 bm _ _ (by simp) (fun ks hk hb => ?_)
  walk_at "dz"
  exact h2 ks (by rw [hk]; simp; omega) (by rw [hk]; simp; omega) hb
theorem spots_mid {r : Addr} {m : Int} (hr : T r = some .row) (m0 : 0 < m) (bm : m ≤ 1000000000) (h2 : ∀ ks : List Int, ks.length % 2 = 0 → ks.length ≤ 48 → (∀ k ∈ ks, Bd 32 k) → P (.lst (ks.map .int)) T) : d_l_spots_t1 (dend0 P X) [some (.ptr r), some (.int m), none, none] T := by
  unfold d_l_spots_t1
  generalize ht : d_l_spots_t2 = t2
  walk_at "dz"
  refine sp_take_mk hr (by decide) (Bd.lit (by decide)) fun j j0 j1 => ?_
  have key : ∀ z : Int, 0 < z → z ≤ 25 → sp_l_take [.ptr r, .int z] T (fun x T1 => int2 (.int 2) x fun i j => MulOk i j ∧ t2 (dend0 P X) [some (.ptr r), some (.int m), some (.int (i * j)), none] T1) (fun x T1 => X x T1) := fun z z0 z1 => by
    refine sp_take_mk hr z0 (Bd.rng (m := 25) (by omega) (by omega) (Bd.lit (by decide))) fun i i0 i1 => ?_
    refine ⟨mulOk_l (by decide), ?_⟩
    subst ht
    exact spots_end hr m0 bm i0 (by omega) h2
  have c3 : j = 0 ∨ j = 1 ∨ j = 2 := by omega
  rcases c3 with rfl | rfl | rfl
  all_goals
    walk_at "dz"
    exact key _ (by decide) (by decide)
theorem pure_l_spots {N : List Str} (hN : N.length = 4) : ∀ us T P X, sp_l_spots us T P X → d_l_spots (dend0 P X) (startD N us) T := by
  intro us T P X h
  obtain ⟨a, rfl, h1⟩ := sp1.of (lock_of h)
  have e0 : startD N [a] = [some a, none, none, none] := by unfold startD; rw [hN]; rfl
  rw [e0]; clear e0; unfold d_l_spots
  obtain ⟨r, rfl, hr, h2⟩ := h1
  generalize ht : d_l_spots_t1 = t1
  walk_at "dz"
  refine ⟨⟨by decide, by decide, by decide⟩, ?_⟩
  refine sp_take_mk hr (by decide) (Bd.lit (by decide)) fun j j0 j1 => ?_
  rcases lt4 j0 j1 with rfl | rfl | rfl | rfl
  all_goals
    walk_at "dz"
    subst ht
    exact spots_mid hr (by decide) (by decide) h2
theorem sp_l_spots_mk {r : Addr} (hr : T r = some .row) (h : ∀ ks : List Int, ks.length % 2 = 0 → ks.length ≤ 48 → (∀ k ∈ ks, Bd 32 k) → P (.lst (ks.map .int)) T) : sp_l_spots [.ptr r] T P X := lock_at ⟨r, rfl, hr, h⟩
noncomputable def sp_l_step : DSp := lock <| sp2 fun a b T P _ => ∃ (l : Ln) (p q : Pt) (m k : Int), a = .lst [l.D, p.D, q.D, .int m] ∧ b = .int k ∧ p.B 60 ∧ q.B 60 ∧ Bd 60 k ∧ Bd 60 m ∧ P (alongP p q k m).D T
def d_l_step : DS := (dRet (dCall sp_l_along (dCons (dIx (dVar 0) (dC (.int 1))) (dCons (dIx (dVar 0) (dC (.int 2))) (dCons (dVar 1) (dCons (dIx (dVar 0) (dC (.int 3))) dNil))))))
theorem pure_l_step {N : List Str} (hN : N.length = 2) : ∀ us T P X, sp_l_step us T P X → d_l_step (dend0 P X) (startD N us) T := by
  intro us T P X h
  obtain ⟨a, b, rfl, h1⟩ := sp2.of (lock_of h)
  have e0 : startD N [a, b] = [some a, some b] := by unfold startD; rw [hN]; rfl
  rw [e0]; clear e0; unfold d_l_step
  obtain ⟨l, p, q, m, k, rfl, rfl, bp, bq, bk, bm, h2⟩ := h1
  walk_at "dz"
  exact sp_l_along_mk p.v4 q.v4 bp bq bk bm (by decide) h2
theorem sp_l_step_mk {l : Ln} {p q : Pt} {m k : Int} (bp : p.B 60) (bq : q.B 60) (bk : Bd 60 k) (bm : Bd 60 m) (h : P (alongP p q k m).D T) : sp_l_step [.lst [l.D, p.D, q.D, .int m], .int k] T P X := lock_at ⟨l, p, q, m, k, rfl, rfl, bp, bq, bk, bm, h⟩
/-- those that come an odd number of times -/
noncomputable def sp_l_ends : DSp := lock <| sp1 fun a T P _ => ∃ ks : List Int, a = .lst (ks.map .int) ∧ ks.length ≤ 1000 ∧ ∀ es : List Int, Odds ks es → es.length ≤ ks.length → P (.lst (es.map .int)) T
def b_l_ends : DS := (dIf (dTst (dInD (dVar 2) (dVar 1))) (dDrop (dRem (dVar 1) (dVar 2))) (dDrop (dApp (dVar 1) (dVar 2))))
def d_l_ends : DS := (dSeq (dAsg (dLstM dNil) 1) (dSeq (dFor (dgName 2) (dSorted (dVar 0)) (dIf (dTst (dInD (dVar 2) (dVar 1))) (dDrop (dRem (dVar 1) (dVar 2))) (dDrop (dApp (dVar 1) (dVar 2))))) (dRet (dVar 1))))
theorem any_int (k : Int) : ∀ es : List Int, ((es.map D.int).any fun z => eqvD z (.int k)) = decide (k ∈ es)
  | [] => by simp
  | e :: r => by
    rw [List.map_cons, List.any_cons, any_int k r, eqv_int]
    by_cases h : e = k
    · simp [h]
    · have : ¬ k = e := fun z => h z.symm
      simp [h, this]
theorem plainDs_ints : ∀ es : List Int, plainDs (es.map .int) = true
  | [] => rfl
  | e :: r => by
    show (true && plainDs (r.map .int)) = true
    rw [plainDs_ints r]
    rfl
theorem canLay_ints : ∀ es : List Int, PyData.canLayAll0 (pys (es.map .int)) = true
  | [] => by simp [pys, PyData.canLayAll0]
  | e :: r => by
    have ih := canLay_ints r
    show PyData.canLayAll0 (.int e :: pys (r.map .int)) = true
    simp [PyData.canLayAll0, PyData.canLay0, ih]
theorem depth_ints : ∀ es : List Int, PyData.depthAll (pys (es.map .int)) ≤ 1
  | [] => by simp [pys, PyData.depthAll]
  | e :: r => by
    have ih := depth_ints r
    show PyData.depthAll (.int e :: pys (r.map .int)) ≤ 1
    simp [PyData.depthAll, PyData.depth]
    omega
theorem eqOk_ints (es : List Int) : eqOk (.lst (es.map .int)) = true := by
  unfold eqOk
  rw [show plainD (.lst (es.map .int)) = plainDs (es.map .int) from rfl, plainDs_ints]
  show (true && (PyData.canLay0 (.list (pys (es.map .int))) && decide (PyData.depth (.list (pys (es.map .int))) ≤ 64))) = true
  have := depth_ints es
  simp [PyData.canLay0, PyData.depth, canLay_ints]
  omega
theorem tog_last {k : Int} : ∀ {es : List Int}, (∀ e ∈ es, e ≤ k) → es.Pairwise (· < ·) → tog k es = if k ∈ es then es.erase k else es ++ [k]
  | [], _, _ => rfl
  | e :: r, h, hp => by
    have ih := tog_last (k := k) (es := r) (fun z hz => h z (by simp [hz])) (List.pairwise_cons.mp hp).2
    have he := h e (by simp)
    have hr := (List.pairwise_cons.mp hp).1
    unfold tog
    by_cases h1 : e < k
    · have nk : ¬ k = e := by omega
      rw [if_pos h1, ih]
      by_cases hk : k ∈ r
      · rw [if_pos hk, if_pos (List.mem_cons_of_mem _ hk), List.erase_cons_tail (by simpa using fun z => nk z.symm)]
      · rw [if_neg hk, if_neg (by simp [hk, nk])]
        rfl
    · have ek : e = k := by omega
      subst ek
      rw [if_neg h1, if_pos rfl, if_pos (by simp), List.erase_cons_head]
theorem lends_loop {u : D} {a : Addr} : ∀ (ms ks es : List Int) (a2 : Option D), Odds ks es → es.length ≤ ks.length → (∀ e ∈ es, ∀ m ∈ ms, e ≤ m) → ms.Pairwise (· ≤ ·) → ks.length + ms.length ≤ 10000 →
    (∀ (es : List Int) (a2 : Option D), Odds (ks ++ ms) es → es.length ≤ ks.length + ms.length → E.nx [some u, some (.ptr a), a2] (updT T a (.lst (es.map .int)))) →
    forL (dgName 2) b_l_ends E (ms.map .int) [some u, some (.ptr a), a2] (updT T a (.lst (es.map .int)))
  | [], ks, es, a2, ho, hl, hle, hp, hz, h => h es a2 (by rw [List.append_nil]; exact ho) (by omega)
  | m :: ms, ks, es, a2, ho, hl, hle, hp, hz, h => by
    simp only [List.length_cons] at hz
    have pm := List.pairwise_cons.mp hp
    have lm : ∀ e ∈ es, e ≤ m := fun e he => hle e he m (by simp)
    have et := tog_last lm ho.up
    have lt : (tog m es).length ≤ es.length + 1 := by
      rw [et]
      split
      · have := List.length_erase_le (a := m) (l := es); omega
      · simp
    have ih := lends_loop (u := u) (a := a) ms (ks ++ [m]) (tog m es) (some (.int m)) (ho.tog m) (by rw [List.length_append]; simp only [List.length_cons, List.length_nil]; omega) (fun e he z hz => by
      rw [tog_mem m es ho.up] at he
      split at he
      · rename_i q; rw [q]; exact pm.1 z hz
      · exact Int.le_trans (lm e he) (pm.1 z hz)) pm.2 (by rw [List.length_append]; simp only [List.length_cons, List.length_nil]; omega) (fun es2 a2 o2 l2 => h es2 a2 (by rw [List.append_assoc] at o2; exact o2) (by rw [List.length_append] at l2; simp only [List.length_cons, List.length_nil] at l2 ⊢; omega))
    show dgName 2 (.int m) _ _ _ _
    generalize hq : forL (dgName 2) b_l_ends E (ms.map .int) = nxt
    rw [hq] at ih
    unfold b_l_ends
    have et2 : thaw (updT T a (.lst (es.map .int))) (.ptr a) = some (.lst (es.map .int)) := by
      show (mlst (updT T a (.lst (es.map .int)) a)).map D.lst = _
      rw [updT_same]
      rfl
    have ep : ∀ ds : List D, pyl (.lst ds) = some ds := fun _ => rfl
    (simp! only [dInD, et2, ep, eqOk_ints, any_int])
    by_cases hm : m ∈ es
    · rw [decide_eq_true hm]
      rw [et, if_pos hm] at ih
      (simp! only [dRem, remD, intsOf_map])
      exact ⟨hm, ih⟩
    · rw [decide_eq_false hm]
      rw [et, if_neg hm] at ih
      walk_at "dz"
      rw [List.length_map]
      refine ⟨by omega, ?_⟩
      rw [List.map_append] at ih
      exact ih
theorem pure_l_ends {K : PySem.W.Frag} {N : List Str} (hN : N.length = 3) : ∀ us T P X, sp_l_ends us T P X → d_l_ends (dend K P X) (startD N us) T := by
  intro us T P X h
  obtain ⟨a, rfl, h1⟩ := sp1.of (lock_of h)
  have e0 : startD N [a] = [some a, none, none] := by unfold startD; rw [hN]; rfl
  rw [e0]; clear e0; unfold d_l_ends
  obtain ⟨ks, rfl, hl, h2⟩ := h1
  generalize hb : (dIf (dTst (dInD (dVar 2) (dVar 1))) (dDrop (dRem (dVar 1) (dVar 2))) (dDrop (dApp (dVar 1) (dVar 2)))) = bb
  walk_at "dz"
  intro a ha
  (simp! only [dSorted, intsOf_map])
  intro ns' hp ho
  walk_at "dz"
  subst hb
  have hlen := hp.length_eq
  refine lends_loop (es := []) (ks := []) (ms := ns') (a2 := none) Odds.nil (by simp) (by simp) ho (by simp; omega) (fun es a2 o2 l2 => ?_)
  walk_at "dz"
  refine ⟨_, _, Wk.freeze (ds := es.map .int) updT_same, ?_⟩
  rw [offT_updT ha]
  rw [List.nil_append] at o2
  refine h2 es ⟨o2.up, fun x => ?_, by rw [o2.par, hlen]⟩ (by simp at l2; omega)
  rw [o2.mem, hp.count_eq]
theorem sp_l_ends_mk {ks : List Int} (hl : ks.length ≤ 1000) (h : ∀ es : List Int, Odds ks es → es.length ≤ ks.length → P (.lst (es.map .int)) T) : sp_l_ends [.lst (ks.map .int)] T P X := lock_at ⟨ks, rfl, hl, h⟩
/-! ### equal data -/
structure Eq0 (n : Nat) (d : D) : Prop where
  pl : plainD d = true
  cl : (py d).canLay0 = true
  dp : (py d).depth ≤ n
theorem Eq0.int (i : Int) : Eq0 0 (.int i) := ⟨rfl, by simp [py, PyData.canLay0], by simp [py, PyData.depth]⟩
theorem Eq0.mono {m n : Nat} {d : D} (h : Eq0 m d) (l : m ≤ n) : Eq0 n d := ⟨h.pl, h.cl, Nat.le_trans h.dp l⟩
theorem eq0_all {n : Nat} : ∀ {ds : List D}, (∀ d ∈ ds, Eq0 n d) → plainDs ds = true ∧ PyData.canLayAll0 (pys ds) = true ∧ PyData.depthAll (pys ds) ≤ n
  | [], _ => ⟨rfl, by simp [pys, PyData.canLayAll0], by simp [pys, PyData.depthAll]⟩
  | d :: ds, h => by
    obtain ⟨a, b, c⟩ := eq0_all (n := n) (ds := ds) fun z hz => h z (by simp [hz])
    have hd := h d (by simp)
    refine ⟨?_, ?_, ?_⟩
    · show (plainD d && plainDs ds) = true
      rw [hd.pl, a]; rfl
    · show PyData.canLayAll0 (py d :: pys ds) = true
      simp [PyData.canLayAll0, hd.cl, b]
    · show PyData.depthAll (py d :: pys ds) ≤ n
      have := hd.dp
      simp [PyData.depthAll]
      omega
theorem Eq0.tup {n : Nat} {ds : List D} (h : ∀ d ∈ ds, Eq0 n d) : Eq0 (n + 1) (.tup ds) := by
  obtain ⟨a, b, c⟩ := eq0_all h
  refine ⟨a, ?_, ?_⟩
  · show PyData.canLay0 (.tuple (pys ds)) = true
    simp [PyData.canLay0, b]
  · show PyData.depth (.tuple (pys ds)) ≤ n + 1
    simp [PyData.depth]
    omega
theorem Eq0.lst {n : Nat} {ds : List D} (h : ∀ d ∈ ds, Eq0 n d) : Eq0 (n + 1) (.lst ds) := by
  obtain ⟨a, b, c⟩ := eq0_all h
  refine ⟨a, ?_, ?_⟩
  · show PyData.canLay0 (.list (pys ds)) = true
    simp [PyData.canLay0, b]
  · show PyData.depth (.list (pys ds)) ≤ n + 1
    simp [PyData.depth]
    omega
theorem Eq0.ok {n : Nat} {d : D} (h : Eq0 n d) (hn : n ≤ 64) : eqOk d = true := by
  unfold eqOk SeqAt.shaped
  rw [h.pl, h.cl, decide_eq_true (Nat.le_trans h.dp hn)]
  rfl
theorem Eq0.pt (p : Pt) : Eq0 1 p.D := Eq0.tup fun d hd => by
  simp only [List.mem_cons, List.not_mem_nil, or_false] at hd
  rcases hd with rfl | rfl | rfl | rfl <;> exact Eq0.int _
theorem Eq0.pair (p : Pt × Pt) : Eq0 2 (pairD p) := Eq0.tup fun d hd => by
  simp only [List.mem_cons, List.not_mem_nil, or_false] at hd
  rcases hd with rfl | rfl <;> exact Eq0.pt _
theorem rowF_mem : ∀ (ps : List Pt), ∀ d ∈ rowF ps, ∃ p q : Pt, d = .tup [p.D, q.D]
  | [], d, h => by simp [rowF] at h
  | [a], d, h => by simp [rowF] at h
  | a :: b :: r, d, h => by
    unfold rowF at h
    rcases List.mem_cons.mp h with rfl | h
    · exact ⟨a, b, rfl⟩
    · exact rowF_mem r d h
theorem Eq0.row (ps : List Pt) : Eq0 3 (.tup (rowF ps)) := Eq0.tup fun d hd => by
  obtain ⟨p, q, rfl⟩ := rowF_mem ps d hd
  exact Eq0.pair (p, q)
mutual
theorem eqv_refl : ∀ d : D, eqvD d d = true
  | .non => rfl
  | .bl b => by cases b <;> rfl
  | .int i => by rw [eqv_int]; exact decide_eq_true rfl
  | .str s => by
    show PyData.eqv (.str s) (.str s) = true
    simp [PyData.eqv]
  | .tup ds => by
    show PyData.eqv (.tuple (pys ds)) (.tuple (pys ds)) = true
    have := eqv_refls ds
    simp [PyData.eqv, this]
  | .lst ds => by
    show PyData.eqv (.list (pys ds)) (.list (pys ds)) = true
    have := eqv_refls ds
    simp [PyData.eqv, this]
  | .scr _ => rfl
  | .ptr _ => rfl
  | .dic _ _ => rfl
theorem eqv_refls : ∀ ds : List D, PyData.eqvAll (pys ds) (pys ds) = true
  | [] => rfl
  | d :: ds => by
    have h1 := eqv_refl d
    have h2 := eqv_refls ds
    show PyData.eqvAll (py d :: pys ds) (py d :: pys ds) = true
    have h1' : PyData.eqv (py d) (py d) = true := h1
    simp [PyData.eqvAll, h1', h2]
end
/-- the row of the points between every second pair -/
noncomputable def sp_l_pairs : DSp := lock <| sp2 fun a b T P _ => ∃ (l : Ln) (p q : Pt) (m : Int) (es : List Int), a = .lst [l.D, p.D, q.D, .int m] ∧ b = .lst (es.map .int) ∧ p.B 60 ∧ q.B 60 ∧ Bd 60 m ∧ (∀ e ∈ es, Bd 60 e) ∧ es.length % 2 = 0 ∧ es.length ≤ 1000 ∧ P (.tup (rowF (es.map fun e => alongP p q e m))) T
def b_l_pairs : DS := (dDrop (dApp (dVar 3) (dTup (dCons (dIx (dVar 2) (dVar 4)) (dCons (dIx (dVar 2) (dAdd (dVar 4) (dC (.int 1)))) dNil)))))
def d_l_pairs : DS := (dSeq (dAsg (dLc 4 (dVar 1) (dCall sp_l_step (dCons (dVar 0) (dCons (dVar 4) dNil)))) 2) (dSeq (dAsg (dLstM dNil) 3) (dSeq (dForR3 (dgName 4) (dCons (dC (.int 0)) (dCons (dLen (dVar 2)) (dCons (dC (.int 2)) dNil))) (dDrop (dApp (dVar 3) (dTup (dCons (dIx (dVar 2) (dVar 4)) (dCons (dIx (dVar 2) (dAdd (dVar 4) (dC (.int 1)))) dNil)))))) (dRet (dTuple (dVar 3))))))
theorem steps_loop {l : Ln} {p q : Pt} {m : Int} {u a2 a3 : Option D} {k : List D → Sto → Prop} (bp : p.B 60) (bq : q.B 60) (bm : Bd 60 m) : ∀ (es : List Int) (acc : List Pt), (∀ e ∈ es, Bd 60 e) → k ((acc ++ es.map fun e => alongP p q e m).map Pt.D) T →
    lcL 4 (dCall sp_l_step (dCons (dVar 0) (dCons (dVar 4) dNil))) [some (.lst [l.D, p.D, q.D, .int m]), u, a2, a3, none] k (es.map .int) (acc.map Pt.D) T
  | [], acc, be, h => by
    rw [List.map_nil, List.append_nil] at h
    exact h
  | e :: es, acc, be, h => by
    have ih := steps_loop (k := k) (l := l) (u := u) (a2 := a2) (a3 := a3) bp bq bm es (acc ++ [alongP p q e m]) (fun z hz => be z (by simp [hz])) (by rw [List.append_assoc]; exact h)
    rw [List.map_append, List.map_cons, List.map_nil] at ih
    show dCall _ _ _ _ _ _
    generalize hq : lcL 4 (dCall sp_l_step (dCons (dVar 0) (dCons (dVar 4) dNil))) [some (.lst [l.D, p.D, q.D, .int m]), u, a2, a3, none] k (es.map .int) = nxt
    rw [hq] at ih
    walk_at "dz"
    exact sp_l_step_mk bp bq (be e (by simp)) bm ih
theorem pairs_loop {u v : Option D} {a : Addr} {ds : List D} : ∀ (n : Nat) (ps pre : List Pt) (acc : List D) (a4 : Option D), ps.length = 2 * n → acc.length + n ≤ 900000 → ds = (pre ++ ps).map Pt.D → (∀ a4, E.nx [u, v, some (.lst ds), some (.ptr a), a4] (updT T a (.lst (acc ++ rowF ps)))) →
    forL (dgName 4) b_l_pairs E (rngS (pre.length : Int) 2 n) [u, v, some (.lst ds), some (.ptr a), a4] (updT T a (.lst acc))
  | 0, [], pre, acc, a4, hl, hz, _, h => by
    have := h a4
    unfold rowF at this
    rw [List.append_nil] at this
    exact this
  | n + 1, x :: y :: ps, pre, acc, a4, hl, hz, hd, h => by
    simp only [List.length_cons] at hl
    have ih := pairs_loop (u := u) (v := v) (a := a) (ds := ds) n ps (pre ++ [x, y]) (acc ++ [.tup [x.D, y.D]]) (some (.int (pre.length : Int))) (by omega) (by rw [List.length_append]; simp only [List.length_cons, List.length_nil]; omega) (by rw [hd]; simp) (fun a4 => by
      have := h a4
      unfold rowF at this
      rw [List.append_assoc]
      exact this)
    rw [show (((pre ++ [x, y]).length : Nat) : Int) = (pre.length : Int) + 2 by rw [List.length_append]; simp only [List.length_cons, List.length_nil]; omega] at ih
    show dgName 4 (.int (pre.length : Int)) _ _ _ _
    generalize hq : forL (dgName 4) b_l_pairs E (rngS ((pre.length : Int) + 2) 2 n) = nxt
    rw [hq] at ih
    have e1 : atI ds (pre.length : Int) = some x.D := by
      rw [hd]
      exact atI_pts (by rw [List.getElem?_append_right (Nat.le_refl _), Nat.sub_self]; rfl)
    have e2 : atI ds ((pre.length : Int) + 1) = some y.D := by
      rw [hd, show ((pre.length : Int) + 1) = ((pre.length + 1 : Nat) : Int) by omega]
      exact atI_pts (by rw [List.getElem?_append_right (by omega), show pre.length + 1 - pre.length = 1 by omega]; rfl)
    unfold b_l_pairs
    (simp! only [e1, e2])
    exact ⟨by omega, ih⟩
theorem pure_l_pairs {K : PySem.W.Frag} {N : List Str} (hN : N.length = 5) : ∀ us T P X, sp_l_pairs us T P X → d_l_pairs (dend K P X) (startD N us) T := by
  intro us T P X h
  obtain ⟨a, b, rfl, h1⟩ := sp2.of (lock_of h)
  have e0 : startD N [a, b] = [some a, some b, none, none, none] := by unfold startD; rw [hN]; rfl
  rw [e0]; clear e0; unfold d_l_pairs
  obtain ⟨l, p, q, m, es, rfl, rfl, bp, bq, bm, be, h0, hl, h2⟩ := h1
  generalize hb : (dDrop (dApp (dVar 3) (dTup (dCons (dIx (dVar 2) (dVar 4)) (dCons (dIx (dVar 2) (dAdd (dVar 4) (dC (.int 1)))) dNil))))) = bb
  generalize hc : (dCall sp_l_step (dCons (dVar 0) (dCons (dVar 4) dNil))) = cc
  walk_at "dz"
  refine ⟨by rw [List.length_map]; omega, ?_⟩
  subst hc
  refine steps_loop (acc := []) bp bq bm es be ?_
  rw [List.nil_append]
  (simp! only [dForR3])
  intro a ha
  (simp! only [dForR3])
  rw [List.length_map, List.length_map]
  refine ⟨⟨by omega, by omega⟩, ?_⟩
  rw [show (((es.length : Int) + 1) / 2).toNat = es.length / 2 by omega]
  subst hb
  refine pairs_loop (es.length / 2) (es.map fun e => alongP p q e m) [] [] none (by rw [List.length_map]; omega) (by simp; omega) rfl (fun a4 => ?_)
  walk_at "dz"
  exact ⟨_, T, Wk.drop fun b m e => updT_off ha e, h2⟩
theorem sp_l_pairs_mk {l : Ln} {p q : Pt} {m : Int} {es : List Int} (bp : p.B 60) (bq : q.B 60) (bm : Bd 60 m) (be : ∀ e ∈ es, Bd 60 e) (h0 : es.length % 2 = 0) (hl : es.length ≤ 1000) (h : P (.tup (rowF (es.map fun e => alongP p q e m))) T) : sp_l_pairs [.lst [l.D, p.D, q.D, .int m], .lst (es.map .int)] T P X := lock_at ⟨l, p, q, m, es, rfl, rfl, bp, bq, bm, be, h0, hl, h⟩
/-- a row's form -/
noncomputable def sp_l_is_row : DSp := lock <| sp1 fun a T P _ => ∃ ps : List Pt, a = .tup (rowF ps) ∧ P (.bl true) T
def b_l_is_row : DS := (dSeq (dIf (dtOr (dtNot (dTst (dIsi "tuple" (dVar 1)))) (dTst (dNe (dLen (dVar 1)) (dC (.int 2))))) (dRet (dC (.bl false))) dNext) (dIf (dtOr (dtNot (dTst (dCall sp_l_wholes (dCons (dIx (dVar 1) (dC (.int 0))) (dCons (dC (.int 4)) dNil))))) (dtNot (dTst (dCall sp_l_wholes (dCons (dIx (dVar 1) (dC (.int 1))) (dCons (dC (.int 4)) dNil)))))) (dRet (dC (.bl false))) dNext))
def d_l_is_row : DS := (dSeq (dIf (dtNot (dTst (dIsi "tuple" (dVar 0)))) (dRet (dC (.bl false))) dNext) (dSeq (dFor (dgName 1) (dVar 0) (dSeq (dIf (dtOr (dtNot (dTst (dIsi "tuple" (dVar 1)))) (dTst (dNe (dLen (dVar 1)) (dC (.int 2))))) (dRet (dC (.bl false))) dNext) (dIf (dtOr (dtNot (dTst (dCall sp_l_wholes (dCons (dIx (dVar 1) (dC (.int 0))) (dCons (dC (.int 4)) dNil))))) (dtNot (dTst (dCall sp_l_wholes (dCons (dIx (dVar 1) (dC (.int 1))) (dCons (dC (.int 4)) dNil)))))) (dRet (dC (.bl false))) dNext))) (dRet (dC (.bl true)))))
theorem wholes_pt {p : Pt} (h : P (.bl true) T) : sp_l_wholes [p.D, .int 4] T P X := sp_l_wholes_mk (ns := [p.x, p.y, p.z, p.w]) (by simp) rfl h
theorem isrow_loop {u : Option D} : ∀ (ps : List Pt) (a1 : Option D), (∀ a1, E.nx [u, a1] T) → forL (dgName 1) b_l_is_row E (rowF ps) [u, a1] T
  | [], a1, h => h a1
  | [_], a1, h => h a1
  | x :: y :: ps, a1, h => by
    have ih := fun a1 => isrow_loop (u := u) ps a1 h
    show dgName 1 (.tup [x.D, y.D]) _ _ _ _
    generalize hq : forL (dgName 1) b_l_is_row E (rowF ps) = nxt
    rw [hq] at ih
    unfold b_l_is_row
    walk_at "dz"
    refine wholes_pt ?_
    walk_at "dz"
    refine wholes_pt ?_
    exact ih _
theorem pure_l_is_row {N : List Str} (hN : N.length = 2) : ∀ us T P X, sp_l_is_row us T P X → d_l_is_row (dend0 P X) (startD N us) T := by
  intro us T P X h
  obtain ⟨a, rfl, h1⟩ := sp1.of (lock_of h)
  have e0 : startD N [a] = [some a, none] := by unfold startD; rw [hN]; rfl
  rw [e0]; clear e0; unfold d_l_is_row
  obtain ⟨ps, rfl, h2⟩ := h1
  generalize hb : (dSeq (dIf (dtOr (dtNot (dTst (dIsi "tuple" (dVar 1)))) (dTst (dNe (dLen (dVar 1)) (dC (.int 2))))) (dRet (dC (.bl false))) dNext) (dIf (dtOr (dtNot (dTst (dCall sp_l_wholes (dCons (dIx (dVar 1) (dC (.int 0))) (dCons (dC (.int 4)) dNil))))) (dtNot (dTst (dCall sp_l_wholes (dCons (dIx (dVar 1) (dC (.int 1))) (dCons (dC (.int 4)) dNil)))))) (dRet (dC (.bl false))) dNext)) = bb
  walk_at "dz"
  subst hb
  exact isrow_loop ps none fun a1 => h2
theorem sp_l_is_row_mk {ps : List Pt} (h : P (.bl true) T) : sp_l_is_row [.tup (rowF ps)] T P X := lock_at ⟨ps, rfl, h⟩
end
end SY

namespace SY
open PySem PySem.Spec PyProof.Rows L2
/-! ### sets of numbers, told by their ends -/
def pz (t : Int → Bool) : List Int → Bool
  | [] => false
  | x :: r => xor (t x) (pz t r)
theorem pz_app (t : Int → Bool) : ∀ a b : List Int, pz t (a ++ b) = xor (pz t a) (pz t b)
  | [], b => by rw [List.nil_append]; show _ = xor false _; rw [Bool.false_xor]
  | x :: a, b => by
    show xor (t x) (pz t (a ++ b)) = xor (xor (t x) (pz t a)) (pz t b)
    rw [pz_app t a b, Bool.xor_assoc]
theorem pz_off {t : Int → Bool} : ∀ {a : List Int}, (∀ x ∈ a, t x = false) → pz t a = false
  | [], _ => rfl
  | x :: a, h => by
    show xor (t x) (pz t a) = false
    rw [h x (by simp), pz_off fun y hy => h y (by simp [hy])]
    rfl
theorem pz_congr {t s : Int → Bool} : ∀ {a : List Int}, (∀ x ∈ a, t x = s x) → pz t a = pz s a
  | [], _ => rfl
  | x :: a, h => by
    show xor (t x) (pz t a) = xor (s x) (pz s a)
    rw [h x (by simp), pz_congr fun y hy => h y (by simp [hy])]
theorem pz_xor (t s : Int → Bool) : ∀ a : List Int, xor (pz t a) (pz s a) = pz (fun x => xor (t x) (s x)) a
  | [] => rfl
  | x :: a => by
    have ih := pz_xor t s a
    show xor (xor (t x) (pz t a)) (xor (s x) (pz s a)) = xor (xor (t x) (s x)) (pz _ a)
    rw [← ih]
    cases t x <;> cases s x <;> cases pz t a <;> cases pz s a <;> rfl
theorem pz_cnt (t : Int → Bool) : ∀ a : List Int, pz t a = oddN (a.countP t)
  | [] => rfl
  | x :: a => by
    show xor (t x) (pz t a) = _
    rw [List.countP_cons, pz_cnt t a]
    cases h : t x
    · simp
    · rw [if_pos rfl, oddN_s]
      cases oddN (a.countP t) <;> rfl
theorem pz_true (a : List Int) : pz (fun _ => true) a = oddN a.length := by
  rw [pz_cnt]
  congr 1
  simp
theorem pz_one {x : Int} : ∀ {a : List Int}, a.Pairwise (· < ·) → pz (fun k => decide (k = x)) a = decide (x ∈ a)
  | [], _ => by simp [pz]
  | y :: a, h => by
    rw [List.pairwise_cons] at h
    show xor (decide (y = x)) (pz _ a) = _
    by_cases e : y = x
    · subst e
      rw [pz_off fun z hz => decide_eq_false fun q => by have := h.1 z hz; omega]
      simp
    · rw [pz_one h.2, decide_eq_false e, Bool.false_xor]
      refine decide_eq_decide.mpr ?_
      rw [List.mem_cons]
      exact ⟨.inr, fun q => q.elim (fun z => absurd z.symm e) id⟩
def lez (j : Int) : Int → Bool := fun k => decide (k ≤ j)
theorem pz_uni {a b : List Int} (ha : a.Pairwise (· < ·)) (hb : b.Pairwise (· < ·)) (h : ∀ j, pz (lez j) a = pz (lez j) b) : a = b := by
  have key : ∀ {c : List Int}, c.Pairwise (· < ·) → ∀ x, decide (x ∈ c) = xor (pz (lez x) c) (pz (lez (x - 1)) c) := fun {c} hc x => by
    rw [pz_xor, ← pz_one hc]
    refine pz_congr fun k _ => ?_
    unfold lez
    by_cases q : k = x
    · rw [decide_eq_true q, decide_eq_true (show k ≤ x by omega), decide_eq_false (show ¬ k ≤ x - 1 by omega)]; rfl
    · by_cases q2 : k ≤ x
      · rw [decide_eq_false q, decide_eq_true q2, decide_eq_true (show k ≤ x - 1 by omega)]; rfl
      · rw [decide_eq_false q, decide_eq_false q2, decide_eq_false (show ¬ k ≤ x - 1 by omega)]; rfl
  refine up_unique ha hb fun x => ?_
  have := key ha x
  rw [h, h, ← key hb x] at this
  exact decide_eq_decide.mp this
/-! either -/
def togs (ks es : List Int) : List Int := ks.foldl (fun e k => tog k e) es
theorem pz_tog (t : Int → Bool) (k : Int) : ∀ es : List Int, pz t (tog k es) = xor (t k) (pz t es)
  | [] => rfl
  | e :: r => by
    have ih := pz_tog t k r
    unfold tog
    split
    · show xor (t e) (pz t (tog k r)) = xor (t k) (xor (t e) (pz t r))
      rw [ih]
      cases t e <;> cases t k <;> cases pz t r <;> rfl
    · split
      · rename_i q
        subst q
        show pz t r = xor (t e) (xor (t e) (pz t r))
        cases t e <;> cases pz t r <;> rfl
      · rfl
theorem pz_togs (t : Int → Bool) : ∀ ks es : List Int, pz t (togs ks es) = xor (pz t es) (pz t ks)
  | [], es => by show pz t es = xor _ false; rw [Bool.xor_false]
  | k :: ks, es => by
    show pz t (togs ks (tog k es)) = xor (pz t es) (xor (t k) (pz t ks))
    rw [pz_togs t ks, pz_tog]
    cases t k <;> cases pz t es <;> cases pz t ks <;> rfl
theorem togs_up : ∀ (ks : List Int) {es : List Int}, es.Pairwise (· < ·) → (togs ks es).Pairwise (· < ·)
  | [], es, h => h
  | k :: ks, es, h => togs_up ks (tog_up k es h)
theorem togs_par : ∀ ks es : List Int, (togs ks es).length % 2 = (es.length + ks.length) % 2
  | [], es => rfl
  | k :: ks, es => by
    show (togs ks (tog k es)).length % 2 = _
    have h1 := togs_par ks (tog k es)
    have h2 := tog_par k es
    rw [List.length_cons]
    omega
theorem tog_len (k : Int) : ∀ es : List Int, (tog k es).length ≤ es.length + 1
  | [] => Nat.le_refl _
  | e :: r => by
    have ih := tog_len k r
    unfold tog
    split
    · simp only [List.length_cons]; omega
    · split
      · simp only [List.length_cons]; omega
      · simp only [List.length_cons]; omega
theorem togs_len : ∀ ks es : List Int, (togs ks es).length ≤ es.length + ks.length
  | [], es => Nat.le_refl _
  | k :: ks, es => by
    have h1 := togs_len ks (tog k es)
    have h2 := tog_len k es
    show (togs ks (tog k es)).length ≤ _
    rw [List.length_cons]
    omega
theorem tog_sub {k x : Int} : ∀ {es : List Int}, x ∈ tog k es → x = k ∨ x ∈ es
  | [], h => .inl (List.mem_singleton.mp h)
  | e :: r, h => by
    unfold tog at h
    split at h
    · rcases List.mem_cons.mp h with q | q
      · exact .inr (by simp [q])
      · exact (tog_sub q).elim .inl fun z => .inr (by simp [z])
    · split at h
      · exact .inr (by simp [h])
      · rcases List.mem_cons.mp h with q | q
        · exact .inl q
        · exact .inr q
theorem togs_sub {x : Int} : ∀ {ks es : List Int}, x ∈ togs ks es → x ∈ es ∨ x ∈ ks
  | [], es, h => .inl h
  | k :: ks, es, h => (togs_sub (ks := ks) h).elim (fun q => (tog_sub q).elim (fun z => .inr (by simp [z])) .inl) fun q => .inr (by simp [q])
/-! common -/
def outZ (w w' : Bool) (k : Int) : List Int := if w ≠ w' then [k] else []
theorem pz_out (t : Int → Bool) (w w' : Bool) (k : Int) : pz t (outZ w w' k) = (xor w w' && t k) := by
  unfold outZ
  cases w <;> cases w' <;> simp [pz]
theorem outZ_mem {w w' : Bool} {k z : Int} (h : z ∈ outZ w w' k) : z = k := by
  unfold outZ at h
  split at h
  · exact List.mem_singleton.mp h
  · cases h
theorem outZ_up (w w' : Bool) (k : Int) : (outZ w w' k).Pairwise (· < ·) := by
  unfold outZ
  split <;> simp
def comZ : Nat → Bool → Bool → List Int → List Int → List Int
  | n + 1, a, b, x :: xs, y :: ys => if x < y then outZ (a && b) (!a && b) x ++ comZ n (!a) b xs (y :: ys) else if x = y then outZ (a && b) (!a && !b) x ++ comZ n (!a) (!b) xs ys else outZ (a && b) (a && !b) y ++ comZ n a (!b) (x :: xs) ys
  | _, _, _, _, _ => []
theorem comZ_s (n : Nat) (a b : Bool) (x y : Int) (xs ys : List Int) : comZ (n + 1) a b (x :: xs) (y :: ys) = if x < y then outZ (a && b) (!a && b) x ++ comZ n (!a) b xs (y :: ys) else if x = y then outZ (a && b) (!a && !b) x ++ comZ n (!a) (!b) xs ys else outZ (a && b) (a && !b) y ++ comZ n a (!b) (x :: xs) ys := rfl
theorem comZ_n1 (n : Nat) (a b : Bool) (ys : List Int) : comZ n a b [] ys = [] := by cases n <;> rfl
theorem comZ_n2 (n : Nat) (a b : Bool) (xs : List Int) : comZ n a b xs [] = [] := by cases n <;> cases xs <;> rfl
theorem comZ_mem : ∀ {n : Nat} {a b : Bool} {xs ys : List Int} {z : Int}, z ∈ comZ n a b xs ys → z ∈ xs ∨ z ∈ ys
  | 0, a, b, xs, ys, z, h => by cases h
  | n + 1, a, b, [], ys, z, h => by cases h
  | n + 1, a, b, x :: xs, [], z, h => by cases h
  | n + 1, a, b, x :: xs, y :: ys, z, h => by
    rw [comZ_s] at h
    split at h
    · rcases List.mem_append.mp h with q | q
      · rw [outZ_mem q]; exact .inl (by simp)
      · exact (comZ_mem q).elim (fun w => .inl (by simp [w])) .inr
    · split at h
      · rcases List.mem_append.mp h with q | q
        · rw [outZ_mem q]; exact .inl (by simp)
        · exact (comZ_mem q).elim (fun w => .inl (by simp [w])) fun w => .inr (by simp [w])
      · rcases List.mem_append.mp h with q | q
        · rw [outZ_mem q]; exact .inr (by simp)
        · exact (comZ_mem q).elim .inl fun w => .inr (by simp [w])
theorem comZ_len : ∀ (n : Nat) (a b : Bool) (xs ys : List Int), (comZ n a b xs ys).length ≤ n
  | 0, a, b, xs, ys => Nat.le_refl _
  | n + 1, a, b, [], ys => Nat.zero_le _
  | n + 1, a, b, x :: xs, [] => Nat.zero_le _
  | n + 1, a, b, x :: xs, y :: ys => by
    rw [comZ_s]
    have h1 := comZ_len n (!a) b xs (y :: ys)
    have h2 := comZ_len n (!a) (!b) xs ys
    have h3 := comZ_len n a (!b) (x :: xs) ys
    have o : ∀ (w w' : Bool) (k : Int), (outZ w w' k).length ≤ 1 := fun w w' k => by
      unfold outZ
      split <;> simp
    have o1 := o (a && b) (!a && b) x
    have o2 := o (a && b) (!a && !b) x
    have o3 := o (a && b) (a && !b) y
    split
    · rw [List.length_append]; omega
    · split
      · rw [List.length_append]; omega
      · rw [List.length_append]; omega
theorem comZ_up : ∀ {n : Nat} {a b : Bool} {xs ys : List Int}, xs.Pairwise (· < ·) → ys.Pairwise (· < ·) → (comZ n a b xs ys).Pairwise (· < ·)
  | 0, a, b, xs, ys, _, _ => .nil
  | n + 1, a, b, [], ys, _, _ => .nil
  | n + 1, a, b, x :: xs, [], _, _ => .nil
  | n + 1, a, b, x :: xs, y :: ys, hx, hy => by
    have hx' := List.pairwise_cons.mp hx
    have hy' := List.pairwise_cons.mp hy
    rw [comZ_s]
    split
    · rename_i q
      refine List.pairwise_append.mpr ⟨outZ_up .., comZ_up hx'.2 hy, fun u hu v hv => ?_⟩
      rw [outZ_mem hu]
      rcases comZ_mem hv with z | z
      · exact hx'.1 v z
      · rcases List.mem_cons.mp z with z | z
        · rw [z]; exact q
        · exact Int.lt_trans q (hy'.1 v z)
    · split
      · rename_i q
        refine List.pairwise_append.mpr ⟨outZ_up .., comZ_up hx'.2 hy'.2, fun u hu v hv => ?_⟩
        rw [outZ_mem hu]
        rcases comZ_mem hv with z | z
        · exact hx'.1 v z
        · rw [q]; exact hy'.1 v z
      · rename_i q1 q2
        have q : y < x := by omega
        refine List.pairwise_append.mpr ⟨outZ_up .., comZ_up hx hy'.2, fun u hu v hv => ?_⟩
        rw [outZ_mem hu]
        rcases comZ_mem hv with z | z
        · rcases List.mem_cons.mp z with z | z
          · rw [z]; exact q
          · exact Int.lt_trans q (hx'.1 v z)
        · exact hy'.1 v z
theorem oddN_c {x : Int} {xs : List Int} {a : Bool} (h : a = oddN (x :: xs).length) : (!a) = oddN xs.length := by
  rw [h, List.length_cons, oddN_s, Bool.not_not]
theorem comZ_pz {t : Int → Bool} (dn : ∀ x y, x ≤ y → t y = true → t x = true) : ∀ {n : Nat} {a b : Bool} {xs ys : List Int}, xs.Pairwise (· < ·) → ys.Pairwise (· < ·) → a = oddN xs.length → b = oddN ys.length → xs.length + ys.length ≤ n →
    xor (a && b) (pz t (comZ n a b xs ys)) = (xor a (pz t xs) && xor b (pz t ys))
  | n, a, b, [], ys, _, _, ha, _, _ => by
    rw [comZ_n1, ha]
    rfl
  | n, a, b, x :: xs, [], _, _, _, hb, _ => by
    rw [comZ_n2, hb]
    show xor (a && false) false = (_ && xor false false)
    simp
  | 0, a, b, x :: xs, y :: ys, _, _, _, _, hn => by simp at hn
  | n + 1, a, b, x :: xs, y :: ys, hx, hy, ha, hb, hn => by
    have hx' := List.pairwise_cons.mp hx
    have hy' := List.pairwise_cons.mp hy
    simp only [List.length_cons] at hn
    have up : ∀ {k : Int} {l : List Int}, (∀ z ∈ l, k < z) → t k = false → pz t l = false := fun {k l} h hk => pz_off fun z hz => by
      cases q : t z
      · rfl
      · rw [dn k z (by have := h z hz; omega) q] at hk
        cases hk
    rw [comZ_s]
    split
    · rename_i q
      have ih := comZ_pz dn (n := n) hx'.2 hy (oddN_c ha) hb (by simp only [List.length_cons]; omega)
      rw [pz_app, pz_out]
      generalize pz t (comZ n (!a) b xs (y :: ys)) = r at *
      show _ = (xor a (xor (t x) (pz t xs)) && _)
      cases hk : t x
      · have e1 := up hx'.1 hk
        have e2 : pz t (y :: ys) = false := up (k := x) (fun z hz => (List.mem_cons.mp hz).elim (fun e => e ▸ q) fun e => Int.lt_trans q (hy'.1 z e)) hk
        rw [e1, e2] at ih ⊢
        cases a <;> cases b <;> cases r <;> first | rfl | exact absurd ih (by decide)
      · generalize pz t xs = u at *
        generalize pz t (y :: ys) = v at *
        cases a <;> cases b <;> cases r <;> cases u <;> cases v <;> first | rfl | exact absurd ih (by decide)
    · split
      · rename_i q
        subst q
        have ih := comZ_pz dn (n := n) hx'.2 hy'.2 (oddN_c ha) (oddN_c hb) (by omega)
        rw [pz_app, pz_out]
        generalize pz t (comZ n (!a) (!b) xs ys) = r at *
        show _ = (xor a (xor (t x) (pz t xs)) && xor b (xor (t x) (pz t ys)))
        cases hk : t x
        · have e1 := up hx'.1 hk
          have e2 := up hy'.1 hk
          rw [e1, e2] at ih ⊢
          cases a <;> cases b <;> cases r <;> first | rfl | exact absurd ih (by decide)
        · generalize pz t xs = u at *
          generalize pz t ys = v at *
          cases a <;> cases b <;> cases r <;> cases u <;> cases v <;> first | rfl | exact absurd ih (by decide)
      · rename_i q1 q2
        have q : y < x := by omega
        have ih := comZ_pz dn (n := n) hx hy'.2 ha (oddN_c hb) (by simp only [List.length_cons]; omega)
        rw [pz_app, pz_out]
        generalize pz t (comZ n a (!b) (x :: xs) ys) = r at *
        show _ = (_ && xor b (xor (t y) (pz t ys)))
        cases hk : t y
        · have e1 := up hy'.1 hk
          have e2 : pz t (x :: xs) = false := up (k := y) (fun z hz => (List.mem_cons.mp hz).elim (fun e => e ▸ q) fun e => Int.lt_trans q (hx'.1 z e)) hk
          rw [e1, e2] at ih ⊢
          cases a <;> cases b <;> cases r <;> first | rfl | exact absurd ih (by decide)
        · generalize pz t ys = u at *
          generalize pz t (x :: xs) = v at *
          cases a <;> cases b <;> cases r <;> cases u <;> cases v <;> first | rfl | exact absurd ih (by decide)
def comW (xs ys : List Int) : List Int := comZ (xs.length + ys.length) false false xs ys
theorem odd0 {n : Nat} (h : n % 2 = 0) : false = oddN n := (decide_eq_false (by omega)).symm
theorem comW_pz {t : Int → Bool} (dn : ∀ x y, x ≤ y → t y = true → t x = true) {xs ys : List Int} (hx : xs.Pairwise (· < ·)) (hy : ys.Pairwise (· < ·)) (x0 : xs.length % 2 = 0) (y0 : ys.length % 2 = 0) : pz t (comW xs ys) = (pz t xs && pz t ys) := by
  have := comZ_pz dn (n := xs.length + ys.length) hx hy (odd0 x0) (odd0 y0) (Nat.le_refl _)
  simpa [comW] using this
theorem comW_par {xs ys : List Int} (hx : xs.Pairwise (· < ·)) (hy : ys.Pairwise (· < ·)) (x0 : xs.length % 2 = 0) (y0 : ys.length % 2 = 0) : (comW xs ys).length % 2 = 0 := by
  have h := comW_pz (t := fun _ => true) (fun _ _ _ _ => rfl) hx hy x0 y0
  rw [pz_true, pz_true, ← odd0 x0, Bool.false_and] at h
  have := of_decide_eq_false h
  omega
/-! the words -/
def scanZ (g : Int → Bool) : Bool → List Int → List Int
  | _, [] => []
  | t, k :: ks => (if g k ≠ t then [k] else []) ++ scanZ g (g k) ks
theorem scanZ_mem {g : Int → Bool} : ∀ {ks : List Int} {t : Bool} {z : Int}, z ∈ scanZ g t ks → z ∈ ks
  | [], t, z, h => h
  | k :: ks, t, z, h => by
    rcases List.mem_append.mp h with q | q
    · split at q
      · rw [List.mem_singleton.mp q]; simp
      · cases q
    · exact List.mem_cons_of_mem _ (scanZ_mem q)
theorem scanZ_up {g : Int → Bool} : ∀ {ks : List Int} {t : Bool}, ks.Pairwise (· < ·) → (scanZ g t ks).Pairwise (· < ·)
  | [], t, h => .nil
  | k :: ks, t, h => by
    have h' := List.pairwise_cons.mp h
    refine List.pairwise_append.mpr ⟨by split <;> simp, scanZ_up h'.2, fun u hu v hv => ?_⟩
    split at hu
    · rw [List.mem_singleton.mp hu]; exact h'.1 v (scanZ_mem hv)
    · cases hu
theorem scanZ_pz {g : Int → Bool} {j : Int} : ∀ {ks : List Int} {t : Bool}, ks.Pairwise (· < ·) → ((∀ k ∈ ks, j < k) → g j = t) → (∀ k ∈ ks, k ≤ j → (∀ k' ∈ ks, k' ≤ j → k' ≤ k) → g j = g k) → xor t (pz (lez j) (scanZ g t ks)) = g j
  | [], t, _, h0, _ => by
    show xor t false = g j
    rw [h0 (fun _ z => by cases z), Bool.xor_false]
  | k :: ks, t, hp, h0, h1 => by
    have hp' := List.pairwise_cons.mp hp
    unfold scanZ
    rw [pz_app]
    by_cases q : k ≤ j
    · have ih := scanZ_pz (g := g) (j := j) (t := g k) hp'.2 (fun h => h1 k (by simp) q fun k' hk' l => (List.mem_cons.mp hk').elim (fun e => by omega) fun e => by have := h k' e; omega) fun k2 m2 l2 h => h1 k2 (by simp [m2]) l2 fun k' hk' l => (List.mem_cons.mp hk').elim (fun e => by have := hp'.1 k2 m2; omega) fun e => h k' e l
      have e : pz (lez j) (if g k ≠ t then [k] else []) = xor (g k) t := by
        split
        · rename_i z
          show xor (decide (k ≤ j)) false = _
          rw [decide_eq_true q]
          cases hg : g k <;> cases t <;> first | rfl | exact absurd hg z
        · rename_i z
          rw [Classical.not_not.mp z]
          show false = _
          cases t <;> rfl
      rw [e, ← ih]
      generalize pz (lez j) (scanZ g (g k) ks) = r
      cases g k <;> cases t <;> cases r <;> rfl
    · have off : ∀ x ∈ k :: ks, j < x := fun x hx => (List.mem_cons.mp hx).elim (fun e => by omega) fun e => by have := hp'.1 x e; omega
      rw [h0 off, pz_off (a := if g k ≠ t then [k] else []) fun x hx => ?_, pz_off (a := scanZ g (g k) ks) fun x hx => ?_]
      · simp
      · have := off x (List.mem_cons_of_mem _ (scanZ_mem hx))
        exact decide_eq_false (by omega)
      · split at hx
        · rw [List.mem_singleton.mp hx]; exact decide_eq_false q
        · cases hx
def opZ (word : Int) (a b : Bool) : Bool := if word = 0 then a || b else if word = 1 then a && b else if word = 2 then a && !b else a != b
theorem opZ_0 (word : Int) : opZ word false false = false := by
  unfold opZ
  split
  · rfl
  · split
    · rfl
    · split <;> rfl
def nowZ (xs ys : List Int) (word : Int) (k : Int) : Bool := opZ word (pz (lez k) xs) (pz (lez k) ys)
def wordZ (xs ys : List Int) (word : Int) : List Int := if word = 0 then togs (comW xs ys) (togs ys xs) else if word = 1 then comW xs ys else if word = 2 then togs (comW xs ys) xs else togs ys xs
theorem word_eq {xs ys out : List Int} {word : Int} (hx : xs.Pairwise (· < ·)) (hy : ys.Pairwise (· < ·)) (x0 : xs.length % 2 = 0) (y0 : ys.length % 2 = 0) (ho : out.Pairwise (· < ·)) (hm : ∀ k, k ∈ out ↔ k ∈ xs ∨ k ∈ ys) :
    scanZ (nowZ xs ys word) false out = wordZ xs ys word := by
  have cu := comZ_up (n := xs.length + ys.length) (a := false) (b := false) hx hy
  refine pz_uni (scanZ_up ho) ?_ fun j => ?_
  · unfold wordZ
    split
    · exact togs_up _ (togs_up _ hx)
    · split
      · exact cu
      · split
        · exact togs_up _ hx
        · exact togs_up _ hx
  · have lz : ∀ {es : List Int} {k : Int}, k ≤ j → (∀ k' ∈ es, k' ≤ j → k' ≤ k) → pz (lez j) es = pz (lez k) es := fun {es k} hk h => pz_congr fun x hx => decide_eq_decide.mpr ⟨fun q => h x hx q, fun q => by omega⟩
    have h := scanZ_pz (g := nowZ xs ys word) (j := j) (t := false) ho (fun h => ?_) fun k hk hkj h => ?_
    · rw [Bool.false_xor] at h
      rw [h]
      have cp := comW_pz (t := lez j) (fun x y l h => decide_eq_true (by have := of_decide_eq_true h; omega)) hx hy x0 y0
      unfold nowZ wordZ opZ
      split
      · rw [pz_togs, pz_togs, cp]
        cases pz (lez j) xs <;> cases pz (lez j) ys <;> rfl
      · split
        · rw [cp]
        · split
          · rw [pz_togs, cp]
            cases pz (lez j) xs <;> cases pz (lez j) ys <;> rfl
          · rw [pz_togs]
    · have off : ∀ {es : List Int}, (∀ k ∈ es, k ∈ out) → pz (lez j) es = false := fun {es} he => pz_off fun x hx => decide_eq_false (by have := h x (he x hx); omega)
      unfold nowZ
      rw [off fun k hk => (hm k).mpr (.inl hk), off fun k hk => (hm k).mpr (.inr hk)]
      exact opZ_0 word
    · unfold nowZ
      rw [lz (es := xs) hkj fun k' hk' l => h k' ((hm k').mpr (.inl hk')) l, lz (es := ys) hkj fun k' hk' l => h k' ((hm k').mpr (.inr hk')) l]
end SY

namespace SY
open PySem PySem.Spec PyProof.Rows L2
/-- two sets on a line, by odd and even -/
def eitherE (l : Ln) (one : List Pt) : List Pt → List Pt
  | [] => one
  | p :: r => eitherE l (putE l p one) r
section
variable {T : Sto} {P : D → Sto → Prop} {X : Xc → Sto → Prop} {E : DX}
noncomputable def sp_either_ends : DSp := lock <| sp3 fun u v w T P _ => ∃ (l : Ln) (one other : List Pt) (n : Nat), u = l.D ∧ v = .lst (one.map Pt.D) ∧ frozen w = some (other.map Pt.D) ∧ l.B n ∧ (∀ q ∈ one, q.B n) ∧ (∀ q ∈ other, q.B n) ∧ n ≤ 20000 ∧ one.length + other.length < 90000 ∧ P (.lst ((eitherE l one other).map Pt.D)) T
def b_either_ends : DS := (dDrop (dCall sp_put_end (dCons (dVar 0) (dCons (dVar 3) (dCons (dVar 4) dNil)))))
def d_either_ends : DS := (dSeq (dAsg (dListM (dVar 1)) 3) (dSeq (dFor (dgName 4) (dVar 2) (dDrop (dCall sp_put_end (dCons (dVar 0) (dCons (dVar 3) (dCons (dVar 4) dNil)))))) (dRet (dVar 3))))
theorem either_loop {E : DX} {u1 u2 : D} {l : Ln} {a : Addr} {n : Nat} (bl : l.B n) (hn : n ≤ 20000) : ∀ (other one : List Pt) (a4 : Option D), (∀ q ∈ one, q.B n) → (∀ q ∈ other, q.B n) → one.length + other.length < 90000 →
    (∀ (a4 : Option D), E.nx [some l.D, some u1, some u2, some (.ptr a), a4] (updT T a (.lst ((eitherE l one other).map Pt.D)))) →
    forL (dgName 4) b_either_ends E (other.map Pt.D) [some l.D, some u1, some u2, some (.ptr a), a4] (updT T a (.lst (one.map Pt.D)))
  | [], one, a4, b1, b2, hl, h => h a4
  | p :: other, one, a4, b1, b2, hl, h => by
    have ih := either_loop (E := E) (u1 := u1) (u2 := u2) (a := a) bl hn other (putE l p one) (some p.D) (fun q hq => (putE_mem l p one q hq).elim (fun e => e ▸ b2 p (by simp)) (b1 q)) (fun q hq => b2 q (by simp [hq])) (by have := putE_len l p one; simp only [List.length_cons] at hl; omega) h
    show dgName 4 p.D _ _ _ _
    generalize hq : forL (dgName 4) b_either_ends E (other.map Pt.D) = nxt
    rw [hq] at ih
    unfold b_either_ends
    walk_at "dz"
    refine sp_put_end_mk updT_same bl (b2 p (by simp)) b1 hn (by omega) ?_
    rw [updT_updT]
    exact ih
theorem pure_either_ends {K : PySem.W.Frag} {N : List Str} (hN : N.length = 5) : ∀ us T P X, sp_either_ends us T P X → d_either_ends (dend K P X) (startD N us) T := by
  intro us T P X h
  obtain ⟨a, b, c, rfl, h1⟩ := sp3.of (lock_of h)
  have e0 : startD N [a, b, c] = [some a, some b, some c, none, none] := by unfold startD; rw [hN]; rfl
  rw [e0]; clear e0; unfold d_either_ends
  obtain ⟨l, one, other, n, rfl, rfl, hf, bl, b1, b2, hn, hl, h2⟩ := h1
  generalize hb : (dDrop (dCall sp_put_end (dCons (dVar 0) (dCons (dVar 3) (dCons (dVar 4) dNil))))) = bb
  (simp! only [hf])
  intro a ha
  subst hb
  refine either_loop (T := T) bl hn other one none b1 b2 hl (fun a4 => ?_)
  walk_at "dz"
  refine ⟨_, _, Wk.freeze (ds := (eitherE l one other).map Pt.D) updT_same, ?_⟩
  rw [offT_updT ha]
  exact h2
theorem sp_either_ends_mk {w : D} {l : Ln} {one other : List Pt} {n : Nat} (hf : frozen w = some (other.map Pt.D)) (bl : l.B n) (b1 : ∀ q ∈ one, q.B n) (b2 : ∀ q ∈ other, q.B n) (hn : n ≤ 20000) (hl : one.length + other.length < 90000) (h : P (.lst ((eitherE l one other).map Pt.D)) T) : sp_either_ends [l.D, .lst (one.map Pt.D), w] T P X := lock_at ⟨l, one, other, n, rfl, rfl, hf, bl, b1, b2, hn, hl, h⟩
end
/-! ### rows by numbers -/
def alz (p q : Pt) (m : Int) (ks : List Int) : List Pt := ks.map fun e => alongP p q e m
theorem eith_map {l : Ln} {p q : Pt} {m : Int} (b : Base l p q) (hm : 0 < m) : ∀ (js ks : List Int), eitherE l (alz p q m ks) (alz p q m js) = alz p q m (togs js ks)
  | [], ks => rfl
  | j :: js, ks => by
    show eitherE l (putE l (alongP p q j m) (ks.map fun e => alongP p q e m)) (alz p q m js) = alz p q m (togs js (tog j ks))
    rw [putE_map b hm]
    exact eith_map b hm js (tog j ks)
theorem ahd_z {l : Ln} {p q : Pt} {m : Int} (b : Base l p q) (hm : 0 < m) (j k : Int) : ahd l (alongP p q j m) (alongP p q k m) = (j - k).sign := by
  rw [ahd_along b, ← Int.sub_mul, Int.sign_mul, Int.sign_eq_one_of_pos hm, Int.mul_one]
theorem out_map {p q : Pt} {m : Int} (w w' : Bool) (k : Int) : outE w w' (alongP p q k m) = alz p q m (outZ w w' k) := by
  unfold outE outZ
  split <;> rfl
theorem com_map {l : Ln} {p q : Pt} {m : Int} (b : Base l p q) (hm : 0 < m) : ∀ (n : Nat) (u v : Bool) (xs ys : List Int), comE l n u v (alz p q m xs) (alz p q m ys) = alz p q m (comZ n u v xs ys)
  | n, u, v, [], ys => by
    show comE l n u v [] _ = _
    rw [comE_n1, comZ_n1]
    rfl
  | n, u, v, x :: xs, [] => by
    show comE l n u v _ [] = _
    rw [comE_n2, comZ_n2]
    rfl
  | 0, u, v, x :: xs, y :: ys => rfl
  | n + 1, u, v, x :: xs, y :: ys => by
    have i1 := com_map b hm n (!u) v xs (y :: ys)
    have i2 := com_map b hm n (!u) (!v) xs ys
    have i3 := com_map b hm n u (!v) (x :: xs) ys
    have ap : ∀ s t : List Int, alz p q m (s ++ t) = alz p q m s ++ alz p q m t := fun s t => List.map_append
    show comE l (n + 1) u v (alongP p q x m :: alz p q m xs) (alongP p q y m :: alz p q m ys) = _
    rw [comE_s, comZ_s, ahd_z b hm]
    change comE l n (!u) v (alz p q m xs) (alongP p q y m :: alz p q m ys) = _ at i1
    change comE l n u (!v) (alongP p q x m :: alz p q m xs) (alz p q m ys) = _ at i3
    rw [i1, i2, i3, out_map, out_map, out_map]
    by_cases c1 : x < y
    · rw [if_pos c1, if_pos (by rw [Int.sign_eq_neg_one_of_neg (by omega)]; decide), ap]
    · by_cases c2 : x = y
      · have e : (x - y).sign = 0 := by rw [c2, Int.sub_self]; rfl
        rw [if_neg c1, if_pos c2, if_neg (by rw [e]; decide), if_pos e, ap]
      · have e : (x - y).sign = 1 := Int.sign_eq_one_of_pos (by omega)
        rw [if_neg c1, if_neg c2, if_neg (by rw [e]; decide), if_neg (by rw [e]; decide), ap]
structure RwH (l : Ln) (p q : Pt) (m : Int) : Prop where
  b : Base l p q
  bl : l.B 150
  bp : p.B 60
  bq : q.B 60
  m1 : 1 ≤ m
  m3 : m ≤ 3
structure RwK (ks : List Int) : Prop where
  up : ks.Pairwise (· < ·)
  ev : ks.length % 2 = 0
  bd : ∀ k ∈ ks, Bd 60 k
theorem RwH.bm {l : Ln} {p q : Pt} {m : Int} (h : RwH l p q m) : Bd 60 m := Bd.rng (m := 3) (by have := h.m1; omega) h.m3 (Bd.lit (by decide))
theorem RwH.pts {l : Ln} {p q : Pt} {m : Int} (h : RwH l p q m) {ks : List Int} (k : RwK ks) : ∀ z ∈ alz p q m ks, z.B 300 := fun z hz => by
  obtain ⟨e, he, rfl⟩ := List.mem_map.mp hz
  exact along_B h.bp h.bq (k.bd e he) h.bm
theorem alz_len (p q : Pt) (m : Int) (ks : List Int) : (alz p q m ks).length = ks.length := List.length_map ..
theorem RwK.tog {ks js : List Int} (h : RwK ks) (j : RwK js) : RwK (togs js ks) := ⟨togs_up js h.up, by have := togs_par js ks; have := h.ev; have := j.ev; omega, fun k hk => (togs_sub hk).elim (h.bd k) (j.bd k)⟩
theorem RwK.com {ks js : List Int} (h : RwK ks) (j : RwK js) : RwK (comW ks js) := ⟨comZ_up h.up j.up, comW_par h.up j.up h.ev j.ev, fun k hk => (comZ_mem hk).elim (h.bd k) (j.bd k)⟩
def RwD (p q : Pt) (m : Int) (ks : List Int) : D := .tup (rowF (alz p q m ks))
section
variable {T : Sto} {P : D → Sto → Prop} {X : Xc → Sto → Prop} {E : DX}
noncomputable def sp_row_either : DSp := lock <| sp3 fun u v w T P _ => ∃ (l : Ln) (p q : Pt) (m : Int) (ks js : List Int), u = l.D ∧ v = RwD p q m ks ∧ w = RwD p q m js ∧ RwH l p q m ∧ RwK ks ∧ RwK js ∧ ks.length + js.length ≤ 1000 ∧ P (RwD p q m (togs js ks)) T
def d_row_either : DS := (dRet (dCall sp_row_from (dCons (dCall sp_either_ends (dCons (dVar 0) (dCons (dCall sp_ends_of (dCons (dVar 1) dNil)) (dCons (dCall sp_ends_of (dCons (dVar 2) dNil)) dNil)))) dNil)))
theorem pure_row_either {N : List Str} (hN : N.length = 3) : ∀ us T P X, sp_row_either us T P X → d_row_either (dend0 P X) (startD N us) T := by
  intro us T P X h
  obtain ⟨a, b, c, rfl, h1⟩ := sp3.of (lock_of h)
  have e0 : startD N [a, b, c] = [some a, some b, some c] := by unfold startD; rw [hN]; rfl
  rw [e0]; clear e0; unfold d_row_either
  obtain ⟨l, p, q, m, ks, js, rfl, rfl, rfl, h, k1, k2, hz, h2⟩ := h1
  have e1 := alz_len p q m ks
  have e2 := alz_len p q m js
  have e3 := alz_len p q m (togs js ks)
  have e4 := togs_len js ks
  have g := k1.tog k2
  unfold RwD at *
  walk_at "dz"
  refine sp_ends_of_mk (by rw [e1]; exact k1.ev) (by omega) ?_
  walk_at "dz"
  refine sp_ends_of_mk (by rw [e2]; exact k2.ev) (by omega) ?_
  walk_at "dz"
  refine sp_either_ends_mk (n := 300) rfl (h.bl.mono (by decide)) (h.pts k1) (h.pts k2) (by decide) (by omega) ?_
  walk_at "dz"
  rw [eith_map h.b (by have := h.m1; omega)]
  refine sp_row_from_mk (by rw [e3]; exact g.ev) (by omega) ?_
  walk_at "dz"
  exact h2
theorem sp_row_either_mk {l : Ln} {p q : Pt} {m : Int} {ks js : List Int} (h : RwH l p q m) (k1 : RwK ks) (k2 : RwK js) (hz : ks.length + js.length ≤ 1000) (h2 : P (RwD p q m (togs js ks)) T) : sp_row_either [l.D, RwD p q m ks, RwD p q m js] T P X := lock_at ⟨l, p, q, m, ks, js, rfl, rfl, rfl, h, k1, k2, hz, h2⟩
noncomputable def sp_row_common : DSp := lock <| sp3 fun u v w T P _ => ∃ (l : Ln) (p q : Pt) (m : Int) (ks js : List Int), u = l.D ∧ v = RwD p q m ks ∧ w = RwD p q m js ∧ RwH l p q m ∧ RwK ks ∧ RwK js ∧ ks.length + js.length ≤ 1000 ∧ P (RwD p q m (comW ks js)) T
def d_row_common : DS := (dRet (dCall sp_row_from (dCons (dCall sp_common_ends (dCons (dVar 0) (dCons (dCall sp_ends_of (dCons (dVar 1) dNil)) (dCons (dCall sp_ends_of (dCons (dVar 2) dNil)) dNil)))) dNil)))
theorem pure_row_common {N : List Str} (hN : N.length = 3) : ∀ us T P X, sp_row_common us T P X → d_row_common (dend0 P X) (startD N us) T := by
  intro us T P X h
  obtain ⟨a, b, c, rfl, h1⟩ := sp3.of (lock_of h)
  have e0 : startD N [a, b, c] = [some a, some b, some c] := by unfold startD; rw [hN]; rfl
  rw [e0]; clear e0; unfold d_row_common
  obtain ⟨l, p, q, m, ks, js, rfl, rfl, rfl, h, k1, k2, hz, h2⟩ := h1
  have e1 := alz_len p q m ks
  have e2 := alz_len p q m js
  have e3 := alz_len p q m (comW ks js)
  have e4 : (comW ks js).length ≤ _ := comZ_len _ _ _ ks js
  have g := k1.com k2
  unfold RwD at *
  walk_at "dz"
  refine sp_ends_of_mk (by rw [e1]; exact k1.ev) (by omega) ?_
  walk_at "dz"
  refine sp_ends_of_mk (by rw [e2]; exact k2.ev) (by omega) ?_
  walk_at "dz"
  refine sp_common_ends_mk (h.bl.mono (by decide)) (fun z hz => (h.pts k1 z hz).mono (by decide)) (fun z hz => (h.pts k2 z hz).mono (by decide)) (by omega) (by omega) ?_
  walk_at "dz"
  rw [com_map h.b (by have := h.m1; omega), e1, e2]
  refine sp_row_from_mk (ps := alz p q m (comW ks js)) (by rw [e3]; exact g.ev) (by omega) ?_
  walk_at "dz"
  exact h2
theorem sp_row_common_mk {l : Ln} {p q : Pt} {m : Int} {ks js : List Int} (h : RwH l p q m) (k1 : RwK ks) (k2 : RwK js) (hz : ks.length + js.length ≤ 1000) (h2 : P (RwD p q m (comW ks js)) T) : sp_row_common [l.D, RwD p q m ks, RwD p q m js] T P X := lock_at ⟨l, p, q, m, ks, js, rfl, rfl, rfl, h, k1, k2, hz, h2⟩
noncomputable def sp_row_less : DSp := lock <| sp3 fun u v w T P _ => ∃ (l : Ln) (p q : Pt) (m : Int) (ks js : List Int), u = l.D ∧ v = RwD p q m ks ∧ w = RwD p q m js ∧ RwH l p q m ∧ RwK ks ∧ RwK js ∧ ks.length + js.length ≤ 400 ∧ P (RwD p q m (togs (comW ks js) ks)) T
def d_row_less : DS := (dRet (dCall sp_row_either (dCons (dVar 0) (dCons (dVar 1) (dCons (dCall sp_row_common (dCons (dVar 0) (dCons (dVar 1) (dCons (dVar 2) dNil)))) dNil)))))
theorem pure_row_less {N : List Str} (hN : N.length = 3) : ∀ us T P X, sp_row_less us T P X → d_row_less (dend0 P X) (startD N us) T := by
  intro us T P X h
  obtain ⟨a, b, c, rfl, h1⟩ := sp3.of (lock_of h)
  have e0 : startD N [a, b, c] = [some a, some b, some c] := by unfold startD; rw [hN]; rfl
  rw [e0]; clear e0; unfold d_row_less
  obtain ⟨l, p, q, m, ks, js, rfl, rfl, rfl, h, k1, k2, hz, h2⟩ := h1
  have e4 : (comW ks js).length ≤ _ := comZ_len _ _ _ ks js
  walk_at "dz"
  refine sp_row_common_mk h k1 k2 (by omega) ?_
  walk_at "dz"
  exact sp_row_either_mk h k1 (k1.com k2) (by omega) h2
theorem sp_row_less_mk {l : Ln} {p q : Pt} {m : Int} {ks js : List Int} (h : RwH l p q m) (k1 : RwK ks) (k2 : RwK js) (hz : ks.length + js.length ≤ 400) (h2 : P (RwD p q m (togs (comW ks js) ks)) T) : sp_row_less [l.D, RwD p q m ks, RwD p q m js] T P X := lock_at ⟨l, p, q, m, ks, js, rfl, rfl, rfl, h, k1, k2, hz, h2⟩
noncomputable def sp_row_joined : DSp := lock <| sp3 fun u v w T P _ => ∃ (l : Ln) (p q : Pt) (m : Int) (ks js : List Int), u = l.D ∧ v = RwD p q m ks ∧ w = RwD p q m js ∧ RwH l p q m ∧ RwK ks ∧ RwK js ∧ ks.length + js.length ≤ 400 ∧ P (RwD p q m (togs (comW ks js) (togs js ks))) T
def d_row_joined : DS := (dRet (dCall sp_row_either (dCons (dVar 0) (dCons (dCall sp_row_either (dCons (dVar 0) (dCons (dVar 1) (dCons (dVar 2) dNil)))) (dCons (dCall sp_row_common (dCons (dVar 0) (dCons (dVar 1) (dCons (dVar 2) dNil)))) dNil)))))
theorem pure_row_joined {N : List Str} (hN : N.length = 3) : ∀ us T P X, sp_row_joined us T P X → d_row_joined (dend0 P X) (startD N us) T := by
  intro us T P X h
  obtain ⟨a, b, c, rfl, h1⟩ := sp3.of (lock_of h)
  have e0 : startD N [a, b, c] = [some a, some b, some c] := by unfold startD; rw [hN]; rfl
  rw [e0]; clear e0; unfold d_row_joined
  obtain ⟨l, p, q, m, ks, js, rfl, rfl, rfl, h, k1, k2, hz, h2⟩ := h1
  have e4 : (comW ks js).length ≤ _ := comZ_len _ _ _ ks js
  have e5 := togs_len js ks
  walk_at "dz"
  refine sp_row_either_mk h k1 k2 (by omega) ?_
  walk_at "dz"
  refine sp_row_common_mk h k1 k2 (by omega) ?_
  walk_at "dz"
  exact sp_row_either_mk h (k1.tog k2) (k1.com k2) (by omega) h2
theorem sp_row_joined_mk {l : Ln} {p q : Pt} {m : Int} {ks js : List Int} (h : RwH l p q m) (k1 : RwK ks) (k2 : RwK js) (hz : ks.length + js.length ≤ 400) (h2 : P (RwD p q m (togs (comW ks js) (togs js ks))) T) : sp_row_joined [l.D, RwD p q m ks, RwD p q m js] T P X := lock_at ⟨l, p, q, m, ks, js, rfl, rfl, rfl, h, k1, k2, hz, h2⟩
noncomputable def sp_l_words : DSp := lock <| sp3 fun u v w T P _ => ∃ (l : Ln) (p q : Pt) (m : Int) (ks js : List Int), u = l.D ∧ v = RwD p q m ks ∧ w = RwD p q m js ∧ RwH l p q m ∧ RwK ks ∧ RwK js ∧ ks.length + js.length ≤ 400 ∧ P (.lst [RwD p q m (wordZ ks js 0), RwD p q m (wordZ ks js 1), RwD p q m (wordZ ks js 2), RwD p q m (wordZ ks js 3)]) T
def d_l_words : DS := (dSeq (dAsg (dLst (dCons (dCall sp_row_joined (dCons (dVar 0) (dCons (dVar 1) (dCons (dVar 2) dNil)))) (dCons (dCall sp_row_common (dCons (dVar 0) (dCons (dVar 1) (dCons (dVar 2) dNil)))) dNil))) 3) (dRet (dAdd (dVar 3) (dLst (dCons (dCall sp_row_less (dCons (dVar 0) (dCons (dVar 1) (dCons (dVar 2) dNil)))) (dCons (dCall sp_row_either (dCons (dVar 0) (dCons (dVar 1) (dCons (dVar 2) dNil)))) dNil))))))
theorem pure_l_words {N : List Str} (hN : N.length = 4) : ∀ us T P X, sp_l_words us T P X → d_l_words (dend0 P X) (startD N us) T := by
  intro us T P X h
  obtain ⟨a, b, c, rfl, h1⟩ := sp3.of (lock_of h)
  have e0 : startD N [a, b, c] = [some a, some b, some c, none] := by unfold startD; rw [hN]; rfl
  rw [e0]; clear e0; unfold d_l_words
  obtain ⟨l, p, q, m, ks, js, rfl, rfl, rfl, h, k1, k2, hz, h2⟩ := h1
  walk_at "dz"
  refine sp_row_joined_mk h k1 k2 hz ?_
  walk_at "dz"
  refine sp_row_common_mk h k1 k2 (by omega) ?_
  walk_at "dz"
  refine sp_row_less_mk h k1 k2 hz ?_
  walk_at "dz"
  refine sp_row_either_mk h k1 k2 (by omega) ?_
  walk_at "dz"
  first | exact h2 | exact ⟨by decide, h2⟩
theorem sp_l_words_mk {l : Ln} {p q : Pt} {m : Int} {ks js : List Int} (h : RwH l p q m) (k1 : RwK ks) (k2 : RwK js) (hz : ks.length + js.length ≤ 400) (h2 : P (.lst [RwD p q m (wordZ ks js 0), RwD p q m (wordZ ks js 1), RwD p q m (wordZ ks js 2), RwD p q m (wordZ ks js 3)]) T) : sp_l_words [l.D, RwD p q m ks, RwD p q m js] T P X := lock_at ⟨l, p, q, m, ks, js, rfl, rfl, rfl, h, k1, k2, hz, h2⟩
/-! ### a word by numbers -/
noncomputable def sp_l_of_word : DSp := lock <| sp3 fun u v w T P _ => ∃ (xs ys : List Int) (word : Int), u = .lst (xs.map .int) ∧ v = .lst (ys.map .int) ∧ w = .int word ∧ 0 ≤ word ∧ word ≤ 3 ∧ RwK xs ∧ RwK ys ∧ xs.length ≤ 48 ∧ ys.length ≤ 48 ∧ P (.lst ((wordZ xs ys word).map .int)) T
def d_l_of_word_b1 : DS := (dSeq (dAsg (dEq (dMod (dLen (dLcI 9 (dVar 0) (dTst (dLe (dVar 9) (dVar 5))) (dVar 9))) (dC (.int 2))) (dC (.int 1))) 6) (dSeq (dAsg (dEq (dMod (dLen (dLcI 9 (dVar 1) (dTst (dLe (dVar 9) (dVar 5))) (dVar 9))) (dC (.int 2))) (dC (.int 1))) 7) (dSeq (dAsg (dIx (dLst (dCons (dOr (dVar 6) (dVar 7)) (dCons (dAnd (dVar 6) (dVar 7)) (dCons (dAnd (dVar 6) (dNot (dVar 7))) (dCons (dNe (dVar 6) (dVar 7)) dNil))))) (dVar 2)) 8) (dSeq (dIf (dTst (dNe (dVar 8) (dVar 4))) (dDrop (dApp (dVar 3) (dVar 5))) dNext) (dAsg (dVar 8) 4)))))
def d_l_of_word_t2 : DS := (dSeq (dFor (dgName 5) (dSrtU (dVar 0) (dVar 1)) d_l_of_word_b1) (dRet (dVar 3)))
def d_l_of_word : DS := (dSeq (dAsg (dLstM dNil) 3) (dSeq (dAsg (dC (.bl false)) 4) d_l_of_word_t2))
theorem lcI_mapZ {j : Nat} {dt : DT} {de : DE} {ρ0 : Env} {kk : List D → Sto → Prop} (p : Int → Bool) : ∀ (xs : List Int) (acc : List D), (∀ x : Int, ∀ (P : Bool → Sto → Prop) (X : Xc → Sto → Prop), P (p x) T → dt (ρ0.set j (some (.int x))) T P X) → (∀ x : Int, ∀ (P : D → Sto → Prop) (X : Xc → Sto → Prop), P (.int x) T → de (ρ0.set j (some (.int x))) T P X) → kk (acc ++ (xs.filter p).map .int) T → lcI j dt de ρ0 kk (xs.map .int) acc T
  | [], acc, _, _, hk => by
    show kk acc T
    simpa using hk
  | x :: xs, acc, ht, he, hk => by
    have ih := fun acc => lcI_mapZ (j := j) (dt := dt) (de := de) (ρ0 := ρ0) (kk := kk) p xs acc ht he
    show dt (ρ0.set j (some (.int x))) T _ _
    refine ht x _ _ ?_
    cases hp : p x
    · rw [if_neg (by simp)]
      refine ih acc ?_
      rw [List.filter_cons, hp, if_neg (by simp)] at hk
      exact hk
    · rw [if_pos rfl]
      refine he x _ _ ?_
      refine ih (acc ++ [.int x]) ?_
      rw [List.filter_cons, hp, if_pos rfl] at hk
      rw [List.append_assoc]
      exact hk
theorem cnt_end {xs : List Int} {k : Int} {P : D → Sto → Prop} {X : Xc → Sto → Prop} {ρ : Env} {T : Sto} {dl : DE} (hz : xs.length ≤ 1000) (hl : ∀ (P : D → Sto → Prop) (X : Xc → Sto → Prop), P (.lst ((xs.filter (lez k)).map .int)) T → dl ρ T P X) (h : P (.bl (pz (lez k) xs)) T) :
    (dEq (dMod (dLen dl) (dC (.int 2))) (dC (.int 1))) ρ T P X := by
  walk_at "dz"
  refine hl _ _ ?_
  walk_at "dz"
  rw [List.length_map, ← List.countP_eq_length_filter]
  rw [pz_cnt] at h
  have e : decide (((xs.countP (lez k) : Nat) : Int) % 2 = 1) = oddN (xs.countP (lez k)) := by
    unfold oddN
    exact decide_eq_decide.mpr (by omega)
  rw [e]
  exact h
theorem cnt_a {xs : List Int} {k : Int} {u1 u2 u3 u4 u6 u7 u8 : Option D} {P : D → Sto → Prop} {X : Xc → Sto → Prop} (hz : xs.length ≤ 1000) (h : P (.bl (pz (lez k) xs)) T) :
    (dEq (dMod (dLen (dLcI 9 (dVar 0) (dTst (dLe (dVar 9) (dVar 5))) (dVar 9))) (dC (.int 2))) (dC (.int 1))) [some (.lst (xs.map .int)), u1, u2, u3, u4, some (.int k), u6, u7, u8, none] T P X := by
  refine cnt_end hz (fun P X h => ?_) h
  generalize hdt : (dTst (dLe (dVar 9) (dVar 5))) = dt
  (simp! only [dLcI])
  refine ⟨by rw [List.length_map]; omega, ?_⟩
  refine lcI_mapZ (lez k) xs [] (fun x P X hP => ?_) (fun x P X hP => ?_) ?_
  · subst hdt
    walk_at "dz"
    exact hP
  · walk_at "dz"
    exact hP
  · exact h
theorem cnt_b {xs : List Int} {k : Int} {u1 u2 u3 u4 u6 u7 u8 : Option D} {P : D → Sto → Prop} {X : Xc → Sto → Prop} (hz : xs.length ≤ 1000) (h : P (.bl (pz (lez k) xs)) T) :
    (dEq (dMod (dLen (dLcI 9 (dVar 1) (dTst (dLe (dVar 9) (dVar 5))) (dVar 9))) (dC (.int 2))) (dC (.int 1))) [u1, some (.lst (xs.map .int)), u2, u3, u4, some (.int k), u6, u7, u8, none] T P X := by
  refine cnt_end hz (fun P X h => ?_) h
  generalize hdt : (dTst (dLe (dVar 9) (dVar 5))) = dt
  (simp! only [dLcI])
  refine ⟨by rw [List.length_map]; omega, ?_⟩
  refine lcI_mapZ (lez k) xs [] (fun x P X hP => ?_) (fun x P X hP => ?_) ?_
  · subst hdt
    walk_at "dz"
    exact hP
  · walk_at "dz"
    exact hP
  · exact h
theorem op_mk {word : Int} {a b : Bool} {u0 u1 u3 u4 u5 u8 u9 : Option D} {P : D → Sto → Prop} {X : Xc → Sto → Prop} (w0 : 0 ≤ word) (w3 : word ≤ 3) (h : P (.bl (opZ word a b)) T) :
    (dIx (dLst (dCons (dOr (dVar 6) (dVar 7)) (dCons (dAnd (dVar 6) (dVar 7)) (dCons (dAnd (dVar 6) (dNot (dVar 7))) (dCons (dNe (dVar 6) (dVar 7)) dNil))))) (dVar 2)) [u0, u1, some (.int word), u3, u4, u5, some (.bl a), some (.bl b), u8, u9] T P X := by
  have c : word = 0 ∨ word = 1 ∨ word = 2 ∨ word = 3 := by omega
  rcases c with rfl | rfl | rfl | rfl <;> cases a <;> cases b <;> ((simp! only [eqOk_bl]); exact h)
theorem app_mk {E : DX} {a : Addr} {acc : List Int} {k : Int} {now t : Bool} {u0 u1 u2 u6 u7 u9 : Option D} (hl : acc.length < 400000)
    (h : E.nx [u0, u1, u2, some (.ptr a), some (.bl now), some (.int k), u6, u7, some (.bl now), u9] (updT T a (.lst ((acc ++ if now ≠ t then [k] else []).map .int)))) :
    (dSeq (dIf (dTst (dNe (dVar 8) (dVar 4))) (dDrop (dApp (dVar 3) (dVar 5))) dNext) (dAsg (dVar 8) 4)) E [u0, u1, u2, some (.ptr a), some (.bl t), some (.int k), u6, u7, some (.bl now), u9] (updT T a (.lst (acc.map .int))) := by
  have em : mlst (updT T a (.lst (acc.map .int)) a) = some (acc.map .int) := by rw [updT_same]; rfl
  (simp! only [eqOk_bl])
  by_cases hw : now = t
  · rw [if_neg (fun q => q hw), List.append_nil] at h
    rw [if_neg (by rw [eqv_bl, hw]; cases t <;> simp)]
    walk_at "dz"
    exact h
  · rw [if_pos hw, List.map_append] at h
    rw [if_pos (by rw [eqv_bl]; cases now <;> cases t <;> simp at hw ⊢)]
    (simp! only [em])
    refine ⟨by rw [List.length_map]; omega, ?_⟩
    exact h
theorem word_loop {xs ys : List Int} {word : Int} {a : Addr} {E : DX} (w0 : 0 ≤ word) (w3 : word ≤ 3) (hx : xs.length ≤ 1000) (hy : ys.length ≤ 1000) : ∀ (ks acc : List Int) (t : Bool) (a5 a6 a7 a8 : Option D), acc.length + ks.length ≤ 1000 →
    (∀ a4 a5 a6 a7 a8, E.nx [some (.lst (xs.map .int)), some (.lst (ys.map .int)), some (.int word), some (.ptr a), a4, a5, a6, a7, a8, none] (updT T a (.lst ((acc ++ scanZ (nowZ xs ys word) t ks).map .int)))) →
    forL (dgName 5) d_l_of_word_b1 E (ks.map .int) [some (.lst (xs.map .int)), some (.lst (ys.map .int)), some (.int word), some (.ptr a), some (.bl t), a5, a6, a7, a8, none] (updT T a (.lst (acc.map .int)))
  | [], acc, t, a5, a6, a7, a8, hz, h => by
    have := h (some (.bl t)) a5 a6 a7 a8
    rw [show scanZ (nowZ xs ys word) t [] = [] from rfl, List.append_nil] at this
    exact this
  | k :: ks, acc, t, a5, a6, a7, a8, hz, h => by
    simp only [List.length_cons] at hz
    have ln : (acc ++ if nowZ xs ys word k ≠ t then [k] else []).length ≤ acc.length + 1 := by
      rw [List.length_append]
      split
      · rw [List.length_singleton]
        exact Nat.le_refl _
      · simp
    have ih := fun a5 a6 a7 a8 => word_loop (a := a) (E := E) w0 w3 hx hy ks (acc ++ if nowZ xs ys word k ≠ t then [k] else []) (nowZ xs ys word k) a5 a6 a7 a8 (by omega) (by
      rw [List.append_assoc]
      exact h)
    show dgName 5 (.int k) _ _ _ _
    generalize hq : forL (dgName 5) d_l_of_word_b1 E (ks.map .int) = nxt
    rw [hq] at ih
    unfold d_l_of_word_b1
    generalize he1 : (dEq (dMod (dLen (dLcI 9 (dVar 0) (dTst (dLe (dVar 9) (dVar 5))) (dVar 9))) (dC (.int 2))) (dC (.int 1))) = e1
    generalize he2 : (dEq (dMod (dLen (dLcI 9 (dVar 1) (dTst (dLe (dVar 9) (dVar 5))) (dVar 9))) (dC (.int 2))) (dC (.int 1))) = e2
    generalize he3 : (dIx (dLst (dCons (dOr (dVar 6) (dVar 7)) (dCons (dAnd (dVar 6) (dVar 7)) (dCons (dAnd (dVar 6) (dNot (dVar 7))) (dCons (dNe (dVar 6) (dVar 7)) dNil))))) (dVar 2)) = e3
    generalize he4 : (dSeq (dIf (dTst (dNe (dVar 8) (dVar 4))) (dDrop (dApp (dVar 3) (dVar 5))) dNext) (dAsg (dVar 8) 4)) = e4
    walk_at "dz"
    subst he1
    refine cnt_a hx ?_
    walk_at "dz"
    subst he2
    refine cnt_b hy ?_
    walk_at "dz"
    subst he3
    refine op_mk w0 w3 ?_
    walk_at "dz"
    subst he4
    refine app_mk (by omega) ?_
    exact ih _ _ _ _
theorem sub_len : ∀ {l m : List Int}, l.Nodup → (∀ x ∈ l, x ∈ m) → l.length ≤ m.length
  | [], m, _, _ => Nat.zero_le _
  | x :: l, m, h, s => by
    have h' := List.nodup_cons.mp h
    have i := sub_len (m := m.erase x) h'.2 fun y hy => (List.mem_erase_of_ne (by rintro rfl; exact h'.1 hy)).mpr (s y (by simp [hy]))
    have e := List.length_erase_of_mem (s x (by simp))
    have p : 0 < m.length := List.length_pos_of_mem (s x (by simp))
    simp only [List.length_cons]
    omega
theorem pure_l_of_word {K : PySem.W.Frag} {N : List Str} (hN : N.length = 10) : ∀ us T P X, sp_l_of_word us T P X → d_l_of_word (dend K P X) (startD N us) T := by
  intro us T P X h
  obtain ⟨a, b, c, rfl, h1⟩ := sp3.of (lock_of h)
  have e0 : startD N [a, b, c] = [some a, some b, some c, none, none, none, none, none, none, none] := by unfold startD; rw [hN]; rfl
  rw [e0]; clear e0; unfold d_l_of_word
  obtain ⟨xs, ys, word, rfl, rfl, rfl, w0, w3, hx, hy, lx, ly, h2⟩ := h1
  generalize ht : d_l_of_word_t2 = t2
  walk_at "dz"
  intro a ha
  subst ht
  unfold d_l_of_word_t2
  generalize hb : d_l_of_word_b1 = b1
  (simp! only [dSrtU, intsOf_map])
  refine ⟨lx, ?_⟩
  (simp! only [dSrtU, intsOf_map])
  refine ⟨ly, fun out ho hm => ?_⟩
  (simp! only [dSrtU, intsOf_map])
  subst hb
  have lo : out.length ≤ xs.length + ys.length := by
    have nd : out.Nodup := ho.imp fun h => Int.ne_of_lt h
    have := sub_len (m := xs ++ ys) nd fun k hk => List.mem_append.mpr ((hm k).mp hk)
    rwa [List.length_append] at this
  refine word_loop w0 w3 (by omega) (by omega) out [] false none none none none (by rw [List.length_nil]; omega) fun a4 a5 a6 a7 a8 => ?_
  rw [List.nil_append, word_eq hx.up hy.up hx.ev hy.ev ho hm]
  walk_at "dz"
  refine ⟨_, _, Wk.freeze (ds := (wordZ xs ys word).map .int) updT_same, ?_⟩
  rw [offT_updT ha]
  exact h2
theorem sp_l_of_word_mk {xs ys : List Int} {word : Int} (w0 : 0 ≤ word) (w3 : word ≤ 3) (hx : RwK xs) (hy : RwK ys) (lx : xs.length ≤ 48) (ly : ys.length ≤ 48) (h : P (.lst ((wordZ xs ys word).map .int)) T) : sp_l_of_word [.lst (xs.map .int), .lst (ys.map .int), .int word] T P X := lock_at ⟨xs, ys, word, rfl, rfl, rfl, w0, w3, hx, hy, lx, ly, h⟩
/-! ### the law -/
theorem RwK.word {xs ys : List Int} (hx : RwK xs) (hy : RwK ys) (w : Int) : RwK (wordZ xs ys w) := by
  unfold wordZ
  split
  · exact (hx.tog hy).tog (hx.com hy)
  · split
    · exact hx.com hy
    · split
      · exact hx.tog (hx.com hy)
      · exact hx.tog hy
theorem wordZ_len (xs ys : List Int) (w : Int) : (wordZ xs ys w).length ≤ 2 * (xs.length + ys.length) := by
  have e4 : (comW xs ys).length ≤ _ := comZ_len _ _ _ xs ys
  have e5 := togs_len ys xs
  have e6 := togs_len (comW xs ys) (togs ys xs)
  have e7 := togs_len (comW xs ys) xs
  unfold wordZ
  split
  · omega
  · split
    · omega
    · split
      · omega
      · omega
theorem pairs_mk {l : Ln} {p q : Pt} {m : Int} {es : List Int} (h : RwH l p q m) (k : RwK es) (hz : es.length ≤ 1000) (h2 : P (RwD p q m es) T) : sp_l_pairs [.lst [l.D, p.D, q.D, .int m], .lst (es.map .int)] T P X := sp_l_pairs_mk h.bp h.bq h.bm k.bd k.ev hz h2
theorem isrow_mk {p q : Pt} {m : Int} {es : List Int} (h : P (.bl true) T) : sp_l_is_row [RwD p q m es] T P X := sp_l_is_row_mk h
theorem Odds.rw {ks es : List Int} (ho : Odds ks es) (k0 : ks.length % 2 = 0) (bk : ∀ k ∈ ks, Bd 32 k) : RwK es := ⟨ho.up, by rw [ho.par]; exact k0, fun e he => by
  have hc := (ho.mem e).mp he
  have : e ∈ ks := by
    rcases Nat.eq_zero_or_pos (ks.count e) with z | z
    · rw [z] at hc; simp at hc
    · exact List.count_pos_iff.mp z
  exact (bk e this).mono (by decide)⟩
theorem RwK.cut {es : List Int} (h : RwK es) : RwK (es.take (es.length / 4 * 2)) := ⟨h.up.sublist (List.take_sublist _ _), by rw [List.length_take]; omega, fun e he => h.bd e (List.mem_of_mem_take he)⟩
theorem cut_toD (ds : List D) (n : Nat) : cutD ds none (some (n : Int)) = ds.take n := by
  unfold cutD
  rw [HT.sIx_none, HT.sIx_nat, List.drop_zero, Nat.sub_zero]
  by_cases h : n ≤ ds.length
  · rw [Nat.min_eq_left h]
  · rw [Nat.min_eq_right (by omega), List.take_length, List.take_of_length_le (by omega)]
def d_law_b1 : DS := (dSeq (dAsg (dCall sp_l_pairs (dCons (dVar 2) (dCons (dCall sp_l_of_word (dCons (dVar 7) (dCons (dVar 8) (dCons (dVar 10) dNil)))) dNil))) 11) (dIf (dtOr (dtNot (dTst (dCall sp_l_is_row (dCons (dIx (dVar 9) (dVar 10)) dNil)))) (dTst (dNe (dIx (dVar 9) (dVar 10)) (dVar 11)))) (dRet (dC (.bl false))) dNext))
def d_law_b2 : DS := (dSeq (dAsg (dCall sp_l_words (dCons (dVar 3) (dCons (dCall sp_l_pairs (dCons (dVar 2) (dCons (dVar 7) dNil))) (dCons (dCall sp_l_pairs (dCons (dVar 2) (dCons (dVar 8) dNil))) dNil)))) 9) (dForR1 (dgName 10) (dCons (dC (.int 4)) dNil) d_law_b1))
def d_law_t8 : DS := (dSeq (dFor (dgTup 2 (dgsName 7 (dgsName 8 dgsNil))) (dLst (dCons (dTup (dCons (dVar 5) (dCons (dVar 6) dNil))) (dCons (dTup (dCons (dVar 6) (dCons (dVar 5) dNil))) (dCons (dTup (dCons (dVar 5) (dCons (dVar 5) dNil))) dNil)))) d_law_b2) (dRet (dC (.bl true))))
def d_law_t6 : DS := (dSeq (dIf (dTst (dEq (dVar 4) (dC (.int 0)))) (dAsg (dVar 5) 6) dNext) (dSeq (dIf (dTst (dEq (dVar 4) (dC (.int 1)))) (dAsg (dSl (dVar 5) dNoO (dSomeO (dMul (dDiv (dLen (dVar 5)) (dC (.int 4))) (dC (.int 2))))) 6) dNext) d_law_t8))
def d_law : DS := (dSeq (dAsg (dCall sp_l_row (dCons (dVar 0) dNil)) 1) (dSeq (dAsg (dCall sp_l_line_by (dCons (dVar 1) dNil)) 2) (dSeq (dAsg (dIx (dVar 2) (dC (.int 0))) 3) (dSeq (dAsg (dCall sp_l_take (dCons (dVar 1) (dCons (dC (.int 8)) dNil))) 4) (dSeq (dAsg (dCall sp_l_ends (dCons (dCall sp_l_spots (dCons (dVar 1) dNil)) dNil)) 5) (dSeq (dAsg (dCall sp_l_ends (dCons (dCall sp_l_spots (dCons (dVar 1) dNil)) dNil)) 6) d_law_t6))))))
theorem word_at {xs ys : List Int} {p q : Pt} {m w : Int} (w0 : 0 ≤ w) (w3 : w ≤ 3) : atI [RwD p q m (wordZ xs ys 0), RwD p q m (wordZ xs ys 1), RwD p q m (wordZ xs ys 2), RwD p q m (wordZ xs ys 3)] w = some (RwD p q m (wordZ xs ys w)) := by
  have c : w = 0 ∨ w = 1 ∨ w = 2 ∨ w = 3 := by omega
  rcases c with rfl | rfl | rfl | rfl <;> rfl
theorem b1_15 {l : Ln} {p q : Pt} {m w : Int} {xs ys : List Int} {E : DX} {a0 a1 a4 a5 a6 a11 : Option D} (h : RwH l p q m) (hx : RwK xs) (hy : RwK ys) (lx : xs.length ≤ 48) (ly : ys.length ≤ 48) (w0 : 0 ≤ w) (w3 : w ≤ 3)
    (hn : ∀ a11, E.nx [a0, a1, some (.lst [l.D, p.D, q.D, .int m]), some l.D, a4, a5, a6, some (.lst (xs.map .int)), some (.lst (ys.map .int)), some (.lst [RwD p q m (wordZ xs ys 0), RwD p q m (wordZ xs ys 1), RwD p q m (wordZ xs ys 2), RwD p q m (wordZ xs ys 3)]), some (.int w), a11] T) :
    d_law_b1 E [a0, a1, some (.lst [l.D, p.D, q.D, .int m]), some l.D, a4, a5, a6, some (.lst (xs.map .int)), some (.lst (ys.map .int)), some (.lst [RwD p q m (wordZ xs ys 0), RwD p q m (wordZ xs ys 1), RwD p q m (wordZ xs ys 2), RwD p q m (wordZ xs ys 3)]), some (.int w), a11] T := by
  have at_ := word_at (xs := xs) (ys := ys) (p := p) (q := q) (m := m) w0 w3
  have len := wordZ_len xs ys w
  have q1 : eqOk (RwD p q m (wordZ xs ys w)) = true := (Eq0.row (alz p q m (wordZ xs ys w))).ok (by decide)
  have q2 := eqv_refl (RwD p q m (wordZ xs ys w))
  unfold d_law_b1
  generalize [RwD p q m (wordZ xs ys 0), RwD p q m (wordZ xs ys 1), RwD p q m (wordZ xs ys 2), RwD p q m (wordZ xs ys 3)] = fl at *
  walk_at "dz"
  refine sp_l_of_word_mk w0 w3 hx hy lx ly ?_
  walk_at "dz"
  refine pairs_mk h (hx.word hy w) (by omega) ?_
  (simp! only [at_])
  refine isrow_mk ?_
  (simp! only [at_, q1, q2])
  exact hn _
theorem b2_15 {l : Ln} {p q : Pt} {m : Int} {xs ys : List Int} {E : DX} {a0 a1 a4 a5 a6 a9 a10 a11 : Option D} (h : RwH l p q m) (hx : RwK xs) (hy : RwK ys) (lx : xs.length ≤ 48) (ly : ys.length ≤ 48)
    (hn : ∀ a9 a10 a11, E.nx [a0, a1, some (.lst [l.D, p.D, q.D, .int m]), some l.D, a4, a5, a6, some (.lst (xs.map .int)), some (.lst (ys.map .int)), a9, a10, a11] T) :
    d_law_b2 E [a0, a1, some (.lst [l.D, p.D, q.D, .int m]), some l.D, a4, a5, a6, some (.lst (xs.map .int)), some (.lst (ys.map .int)), a9, a10, a11] T := by
  have b1 := fun (w : Int) (E : DX) (a11 : Option D) => b1_15 (E := E) (T := T) (w := w) (a0 := a0) (a1 := a1) (a4 := a4) (a5 := a5) (a6 := a6) (a11 := a11) h hx hy lx ly
  unfold d_law_b2
  generalize hb : d_law_b1 = bb at *
  walk_at "dz"
  refine pairs_mk h hx (by omega) ?_
  walk_at "dz"
  refine pairs_mk h hy (by omega) ?_
  walk_at "dz"
  refine sp_l_words_mk h hx hy (by omega) ?_
  generalize [RwD p q m (wordZ xs ys 0), RwD p q m (wordZ xs ys 1), RwD p q m (wordZ xs ys 2), RwD p q m (wordZ xs ys 3)] = fl at *
  walk_at "dz"
  refine ⟨⟨by decide, by decide⟩, ?_⟩
  refine b1 0 _ _ (by decide) (by decide) fun a11 => ?_
  walk_at "dz"
  refine b1 1 _ _ (by decide) (by decide) fun a11 => ?_
  walk_at "dz"
  refine b1 2 _ _ (by decide) (by decide) fun a11 => ?_
  walk_at "dz"
  refine b1 3 _ _ (by decide) (by decide) fun a11 => ?_
  walk_at "dz"
  exact hn _ _ _
theorem tg2 {i j : Nat} {a b : D} {ρ : Env} {k : Env → Sto → Prop} {kx : Xc → Sto → Prop} (h : k ((ρ.set i (some a)).set j (some b)) T) : dgTup 2 (dgsName i (dgsName j dgsNil)) (.tup [a, b]) ρ T k kx := by
  walk_at "dz"
  exact h
theorem list_k15 {E : DX} {dg : DG} {bb : DS} {xx : DS} {o t : D} {u0 u1 u2 u3 u4 u7 u8 u9 u10 u11 : Option D}
    (h : (dSeq (fun E ρ T => forL dg bb E [.tup [o, t], .tup [t, o], .tup [o, o]] ρ T) xx) E [u0, u1, u2, u3, u4, some o, some t, u7, u8, u9, u10, u11] T) :
    (dSeq (dFor dg (dLst (dCons (dTup (dCons (dVar 5) (dCons (dVar 6) dNil))) (dCons (dTup (dCons (dVar 6) (dCons (dVar 5) dNil))) (dCons (dTup (dCons (dVar 5) (dCons (dVar 5) dNil))) dNil)))) bb) xx) E [u0, u1, u2, u3, u4, some o, some t, u7, u8, u9, u10, u11] T := by
  show dFor dg _ bb _ _ _
  change forL dg bb _ _ _ _ at h
  generalize hE : ({ E with nx := xx E } : DX) = E2 at *
  unfold dFor
  walk_at "dz"
  exact h
theorem t8_15 {l : Ln} {p q : Pt} {m : Int} {xs ys : List Int} {a0 a1 a4 a7 a8 a9 a10 a11 : Option D} (h : RwH l p q m) (hx : RwK xs) (hy : RwK ys) (lx : xs.length ≤ 48) (ly : ys.length ≤ 48) (hp : P (.bl true) T) :
    d_law_t8 (dend0 P X) [a0, a1, some (.lst [l.D, p.D, q.D, .int m]), some l.D, a4, some (.lst (xs.map .int)), some (.lst (ys.map .int)), a7, a8, a9, a10, a11] T := by
  have b2 := fun (us vs : List Int) (hu : RwK us) (hv : RwK vs) (lu : us.length ≤ 48) (lv : vs.length ≤ 48) (E : DX) (a9 a10 a11 : Option D) => b2_15 (E := E) (T := T) (xs := us) (ys := vs) (a0 := a0) (a1 := a1) (a4 := a4) (a5 := some (.lst (xs.map .int))) (a6 := some (.lst (ys.map .int))) (a9 := a9) (a10 := a10) (a11 := a11) h hu hv lu lv
  unfold d_law_t8
  generalize hb : d_law_b2 = bb at *
  refine list_k15 ?_
  show forL (dgTup 2 (dgsName 7 (dgsName 8 dgsNil))) bb _ _ _ _
  refine tg2 ?_
  refine b2 xs ys hx hy lx ly _ _ _ _ fun a9 a10 a11 => ?_
  refine tg2 ?_
  refine b2 ys xs hy hx ly lx _ _ _ _ fun a9 a10 a11 => ?_
  refine tg2 ?_
  refine b2 xs xs hx hx lx lx _ _ _ _ fun a9 a10 a11 => ?_
  walk_at "dz"
  exact hp
theorem t6_15 {l : Ln} {p q : Pt} {m k : Int} {xs ys : List Int} {a0 a1 a7 a8 a9 a10 a11 : Option D} (h : RwH l p q m) (hx : RwK xs) (hy : RwK ys) (lx : xs.length ≤ 48) (ly : ys.length ≤ 48) (hp : P (.bl true) T) :
    d_law_t6 (dend0 P X) [a0, a1, some (.lst [l.D, p.D, q.D, .int m]), some l.D, some (.int k), some (.lst (xs.map .int)), some (.lst (ys.map .int)), a7, a8, a9, a10, a11] T := by
  unfold d_law_t6
  have t8 := fun (vs : List Int) (hv : RwK vs) (lv : vs.length ≤ 48) => t8_15 (P := P) (X := X) (T := T) (xs := xs) (ys := vs) (a0 := a0) (a1 := a1) (a4 := some (.int k)) (a7 := a7) (a8 := a8) (a9 := a9) (a10 := a10) (a11 := a11) h hx hv lx lv hp
  generalize ht : d_law_t8 = tt at *
  walk_at "dz"
  by_cases c0 : k = 0
  · subst c0
    walk_at "dz"
    exact t8 xs hx lx
  · rw [if_neg (by simpa using c0)]
    walk_at "dz"
    by_cases c1 : k = 1
    · subst c1
      walk_at "dz"
      rw [List.length_map]
      refine ⟨Bd.divOk (Bd.lit (n := 3) (by decide)) (by decide) (by decide), mulOk_r (by decide), ?_⟩
      have e1 : ((xs.length : Nat) : Int) / 4 * 2 = ((xs.length / 4 * 2 : Nat) : Int) := by omega
      rw [e1, cut_toD, ← List.map_take]
      exact t8 _ hx.cut (by rw [List.length_take]; omega)
    · rw [if_neg (by simpa using c1)]
      walk_at "dz"
      exact t8 ys hy ly
theorem pure_law {N : List Str} (hN : N.length = 12) : ∀ us T P X, sp_law us T P X → d_law (dend0 P X) (startD N us) T := by
  intro us T P X h
  obtain ⟨a, rfl, h1⟩ := sp1.of (lock_of h)
  obtain ⟨ns, rfl, _, _, h2⟩ := h1
  have e : startD N [D.scr ns] = [some (.scr ns), none, none, none, none, none, none, none, none, none, none, none] := by unfold startD; rw [hN]; rfl
  rw [e]
  unfold d_law
  generalize ht : d_law_t6 = t6
  walk_at "dz"
  refine sp_row_mk fun r hr => ?_
  walk_at "dz"
  refine sp_l_line_by_mk updT_same fun l p q m b bl bp bq m1 m3 => ?_
  walk_at "dz"
  refine sp_take_mk updT_same (by decide) (Bd.lit (by decide)) fun k k0 k1 => ?_
  walk_at "dz"
  refine sp_l_spots_mk updT_same fun ks e0 lz bk => ?_
  walk_at "dz"
  refine sp_l_ends_mk (by omega) fun es ho hle => ?_
  walk_at "dz"
  refine sp_l_spots_mk updT_same fun ks' e0' lz' bk' => ?_
  walk_at "dz"
  refine sp_l_ends_mk (by omega) fun es' ho' hle' => ?_
  walk_at "dz"
  subst ht
  exact t6_15 ⟨b, bl, bp, bq, m1, m3⟩ (ho.rw e0 bk) (ho'.rw e0' bk') (by omega) (by omega) (h2 _)
end
end SY

namespace Law
open PySem PySem.Spec PyProof.Rows L2 SY
def topS (i : Nat) : Stmt := PySem.Challenge.pw_solidyard_k15_words_of_rows.main.body.getD i (.Pass ⟨0, 0, 0, 0⟩)
abbrev s_dot : Stmt := topS 1
theorem sc_dot : FnScope ["u", "v"] ["u", "v"] (defScope s_dot) := ⟨rfl, rfl, rfl, by decide +kernel, rfl, by decide +kernel, by decide +kernel⟩
abbrev s_sign_of : Stmt := topS 2
theorem sc_sign_of : FnScope ["number"] ["number"] (defScope s_sign_of) := ⟨rfl, rfl, rfl, by decide +kernel, rfl, by decide +kernel, by decide +kernel⟩
abbrev s_ahead : Stmt := topS 4
theorem sc_ahead : FnScope ["line", "p", "q"] ["line", "p", "q"] (defScope s_ahead) := ⟨rfl, rfl, rfl, by decide +kernel, rfl, by decide +kernel, by decide +kernel⟩
abbrev s_put_end : Stmt := topS 5
theorem sc_put_end : FnScope ["line", "ends", "p", "at"] ["line", "ends", "p"] (defScope s_put_end) := ⟨rfl, rfl, rfl, by decide +kernel, rfl, by decide +kernel, by decide +kernel⟩
abbrev s_either_ends : Stmt := topS 6
theorem sc_either_ends : FnScope ["line", "one", "other", "found", "p"] ["line", "one", "other"] (defScope s_either_ends) := ⟨rfl, rfl, rfl, by decide +kernel, rfl, by decide +kernel, by decide +kernel⟩
abbrev s_common_ends : Stmt := topS 7
theorem sc_common_ends : FnScope ["line", "one", "other", "found", "left", "right", "was", "first", "p"] ["line", "one", "other"] (defScope s_common_ends) := ⟨rfl, rfl, rfl, by decide +kernel, rfl, by decide +kernel, by decide +kernel⟩
abbrev s_ends_of : Stmt := topS 8
theorem sc_ends_of : FnScope ["row", "ends", "p", "q"] ["row"] (defScope s_ends_of) := ⟨rfl, rfl, rfl, by decide +kernel, rfl, by decide +kernel, by decide +kernel⟩
abbrev s_row_from : Stmt := topS 9
theorem sc_row_from : FnScope ["ends", "at"] ["ends"] (defScope s_row_from) := ⟨rfl, rfl, rfl, by decide +kernel, rfl, by decide +kernel, by decide +kernel⟩
abbrev s_row_either : Stmt := topS 11
theorem sc_row_either : FnScope ["line", "one", "other"] ["line", "one", "other"] (defScope s_row_either) := ⟨rfl, rfl, rfl, by decide +kernel, rfl, by decide +kernel, by decide +kernel⟩
abbrev s_row_common : Stmt := topS 12
theorem sc_row_common : FnScope ["line", "one", "other"] ["line", "one", "other"] (defScope s_row_common) := ⟨rfl, rfl, rfl, by decide +kernel, rfl, by decide +kernel, by decide +kernel⟩
abbrev s_row_less : Stmt := topS 13
theorem sc_row_less : FnScope ["line", "one", "other"] ["line", "one", "other"] (defScope s_row_less) := ⟨rfl, rfl, rfl, by decide +kernel, rfl, by decide +kernel, by decide +kernel⟩
abbrev s_row_joined : Stmt := topS 14
theorem sc_row_joined : FnScope ["line", "one", "other"] ["line", "one", "other"] (defScope s_row_joined) := ⟨rfl, rfl, rfl, by decide +kernel, rfl, by decide +kernel, by decide +kernel⟩
abbrev s__law_row : Stmt := topS 16
theorem sc__law_row : FnScope ["_law_script", "_law_row_here", "_law_k", "_law_cell", "_law_one", "_law_two_here", "_law_three"] ["_law_script"] (defScope s__law_row) := ⟨rfl, rfl, rfl, by decide +kernel, rfl, by decide +kernel, by decide +kernel⟩
abbrev s__law_take : Stmt := topS 17
theorem sc__law_take : FnScope ["_law_row_here", "_law_many", "_law_found"] ["_law_row_here", "_law_many"] (defScope s__law_take) := ⟨rfl, rfl, rfl, by decide +kernel, rfl, by decide +kernel, by decide +kernel⟩
abbrev s__law_gcd : Stmt := topS 18
theorem sc__law_gcd : FnScope ["_law_one", "_law_other"] ["_law_one", "_law_other"] (defScope s__law_gcd) := ⟨rfl, rfl, rfl, by decide +kernel, rfl, by decide +kernel, by decide +kernel⟩
abbrev s__law_lowest : Stmt := topS 19
theorem sc__law_lowest : FnScope ["_law_numbers", "_law_by", "_law_number"] ["_law_numbers"] (defScope s__law_lowest) := ⟨rfl, rfl, rfl, by decide +kernel, rfl, by decide +kernel, by decide +kernel⟩
abbrev s__law_point : Stmt := topS 20
theorem sc__law_point : FnScope ["_law_row_here", "_law_size", "_law_bottom", "_law_under", "_law_many", "_law_tops", "_law_k"] ["_law_row_here", "_law_size", "_law_bottom"] (defScope s__law_point) := ⟨rfl, rfl, rfl, by decide +kernel, rfl, by decide +kernel, by decide +kernel⟩
abbrev s__law_free : Stmt := topS 21
theorem sc__law_free : FnScope ["_law_row_here", "_law_size", "_law_bottom"] ["_law_row_here"] (defScope s__law_free) := ⟨rfl, rfl, rfl, by decide +kernel, rfl, by decide +kernel, by decide +kernel⟩
abbrev s__law_two : Stmt := topS 22
theorem sc__law_two : FnScope ["_law_row_here", "_law_p", "_law_q", "_law_step_here", "_law_far", "_law_k"] ["_law_row_here"] (defScope s__law_two) := ⟨rfl, rfl, rfl, by decide +kernel, rfl, by decide +kernel, by decide +kernel⟩
abbrev s__law_arrow : Stmt := topS 23
theorem sc__law_arrow : FnScope ["_law_p", "_law_q", "_law_k"] ["_law_p", "_law_q"] (defScope s__law_arrow) := ⟨rfl, rfl, rfl, by decide +kernel, rfl, by decide +kernel, by decide +kernel⟩
abbrev s__law_cross : Stmt := topS 24
theorem sc__law_cross : FnScope ["_law_u", "_law_v", "_law_x", "_law_y", "_law_z"] ["_law_u", "_law_v"] (defScope s__law_cross) := ⟨rfl, rfl, rfl, by decide +kernel, rfl, by decide +kernel, by decide +kernel⟩
abbrev s__law_line : Stmt := topS 25
theorem sc__law_line : FnScope ["_law_p", "_law_q", "_law_six", "_law_number", "_law_one"] ["_law_p", "_law_q"] (defScope s__law_line) := ⟨rfl, rfl, rfl, by decide +kernel, rfl, by decide +kernel, by decide +kernel⟩
abbrev s__law_dot : Stmt := topS 26
theorem sc__law_dot : FnScope ["_law_u", "_law_v"] ["_law_u", "_law_v"] (defScope s__law_dot) := ⟨rfl, rfl, rfl, by decide +kernel, rfl, by decide +kernel, by decide +kernel⟩
abbrev s__law_line_by : Stmt := topS 27
theorem sc__law_line_by : FnScope ["_law_row_here", "_law_p", "_law_q", "_law_line_here"] ["_law_row_here"] (defScope s__law_line_by) := ⟨rfl, rfl, rfl, by decide +kernel, rfl, by decide +kernel, by decide +kernel⟩
abbrev s__law_ends : Stmt := topS 28
theorem sc__law_ends : FnScope ["_law_spots_here", "_law_ends_here", "_law_k"] ["_law_spots_here"] (defScope s__law_ends) := ⟨rfl, rfl, rfl, by decide +kernel, rfl, by decide +kernel, by decide +kernel⟩
abbrev s__law_spots : Stmt := topS 29
theorem sc__law_spots : FnScope ["_law_row_here", "_law_most", "_law_many", "_law_k"] ["_law_row_here"] (defScope s__law_spots) := ⟨rfl, rfl, rfl, by decide +kernel, rfl, by decide +kernel, by decide +kernel⟩
abbrev s__law_along : Stmt := topS 30
theorem sc__law_along : FnScope ["_law_p", "_law_q", "_law_k", "_law_m", "_law_one", "_law_two_here", "_law_far", "_law_i"] ["_law_p", "_law_q", "_law_k", "_law_m"] (defScope s__law_along) := ⟨rfl, rfl, rfl, by decide +kernel, rfl, by decide +kernel, by decide +kernel⟩
abbrev s__law_step : Stmt := topS 31
theorem sc__law_step : FnScope ["_law_base", "_law_k"] ["_law_base", "_law_k"] (defScope s__law_step) := ⟨rfl, rfl, rfl, by decide +kernel, rfl, by decide +kernel, by decide +kernel⟩
abbrev s__law_pairs : Stmt := topS 32
theorem sc__law_pairs : FnScope ["_law_base", "_law_ends_here", "_law_points", "_law_pairs_here", "_law_k"] ["_law_base", "_law_ends_here"] (defScope s__law_pairs) := ⟨rfl, rfl, rfl, by decide +kernel, rfl, by decide +kernel, by decide +kernel⟩
abbrev s__law_whole : Stmt := topS 33
theorem sc__law_whole : FnScope ["_law_number"] ["_law_number"] (defScope s__law_whole) := ⟨rfl, rfl, rfl, by decide +kernel, rfl, by decide +kernel, by decide +kernel⟩
abbrev s__law_wholes : Stmt := topS 34
theorem sc__law_wholes : FnScope ["_law_found", "_law_many", "_law_number"] ["_law_found", "_law_many"] (defScope s__law_wholes) := ⟨rfl, rfl, rfl, by decide +kernel, rfl, by decide +kernel, by decide +kernel⟩
abbrev s__law_is_row : Stmt := topS 35
theorem sc__law_is_row : FnScope ["_law_found", "_law_pair"] ["_law_found"] (defScope s__law_is_row) := ⟨rfl, rfl, rfl, by decide +kernel, rfl, by decide +kernel, by decide +kernel⟩
abbrev s__law_of_word : Stmt := topS 36
theorem sc__law_of_word : FnScope ["_law_ones", "_law_others", "_law_word", "_law_made", "_law_truth", "_law_k", "_law_one", "_law_other", "_law_now", "_law_end"] ["_law_ones", "_law_others", "_law_word"] (defScope s__law_of_word) := ⟨rfl, rfl, rfl, by decide +kernel, rfl, by decide +kernel, by decide +kernel⟩
abbrev s__law_words : Stmt := topS 37
theorem sc__law_words : FnScope ["_law_line_here", "_law_one", "_law_other", "_law_found"] ["_law_line_here", "_law_one", "_law_other"] (defScope s__law_words) := ⟨rfl, rfl, rfl, by decide +kernel, rfl, by decide +kernel, by decide +kernel⟩
abbrev s_law : Stmt := topS 38
theorem sc_law : FnScope ["_law_script", "_law_row_here", "_law_base", "_law_line_here", "_law_way", "_law_ones", "_law_others", "_law_one", "_law_other", "_law_found", "_law_word", "_law_due"] ["_law_script"] (defScope s_law) := ⟨rfl, rfl, rfl, by decide +kernel, rfl, by decide +kernel, by decide +kernel⟩
section
variable {P : Program} {w : World} {K : PySem.W.Frag} {mg : Str → Option Value} {base : Heap}
theorem ok_dot (F : FT K mg "dot" s_dot ["u", "v"]) : Cal P w K mg base 1 "dot" ["u", "v"] sp_dot := okF (N := ["u", "v"]) (ds := d_dot) F sc_dot (lenL sp2.len) (fun h => fn_run0 h (pure_dot rfl)) fun f cdv A outer s H E hr tk po =>
  (pds_one (pds_ret (pd_add (pd_add (pd_mul (pd_ix (pd_var 0) pd_int (fun _ _ => rfl)) (pd_ix (pd_var 1) pd_int (fun _ _ => rfl))) (pd_mul (pd_ix (pd_var 0) pd_int (fun _ _ => rfl)) (pd_ix (pd_var 1) pd_int (fun _ _ => rfl)))) (pd_mul (pd_ix (pd_var 0) pd_int (fun _ _ => rfl)) (pd_ix (pd_var 1) pd_int (fun _ _ => rfl))))))
theorem ok_sign_of (F : FT K mg "sign_of" s_sign_of ["number"]) : Cal P w K mg base 1 "sign_of" ["number"] sp_sign_of := okF (N := ["number"]) (ds := d_sign_of) F sc_sign_of (lenL sp1.len) (fun h => fn_run0 h (pure_sign_of rfl)) fun f cdv A outer s H E hr tk po =>
  (pds_cons (pds_if (pdt_lt (pd_var 0) pd_int) (pds_one (pds_ret (pd_neg pd_int))) pds_nil)
  (pds_cons (pds_if (pdt_gt (pd_var 0) pd_int) (pds_one (pds_ret pd_int)) pds_nil)
  (pds_one (pds_ret pd_int))))
theorem ok_ahead (F : FT K mg "ahead" s_ahead ["line", "p", "q"]) (c_sign_of : Cal P w K mg base 1 "sign_of" ["number"] sp_sign_of) (c_dot : Cal P w K mg base 1 "dot" ["u", "v"] sp_dot) : Cal P w K mg base 2 "ahead" ["line", "p", "q"] sp_ahead := okF (N := ["line", "p", "q"]) (ds := d_ahead) F sc_ahead (lenL sp3.len) (fun h => fn_run0 h (pure_ahead rfl)) fun f cdv A outer s H E hr tk po =>
  (pds_one (pds_ret (pd_callC c_sign_of tk (hr.mono (by decide)) (by rfl) (pda_cons (pd_sub (pd_mul (pd_callC c_dot tk (hr.mono (by decide)) (by rfl) (pda_cons (pd_var 0) (pda_cons (pd_var 1) pda_nil))) (pd_ix (pd_var 2) pd_int (fun _ _ => rfl))) (pd_mul (pd_callC c_dot tk (hr.mono (by decide)) (by rfl) (pda_cons (pd_var 0) (pda_cons (pd_var 2) pda_nil))) (pd_ix (pd_var 1) pd_int (fun _ _ => rfl)))) pda_nil))))
theorem ok_put_end (F : FT K mg "put_end" s_put_end ["line", "ends", "p"]) (c_ahead : Cal P w K mg base 2 "ahead" ["line", "p", "q"] sp_ahead) (m_len : mg "len" = none) : Cal P w K mg base 3 "put_end" ["line", "ends", "p"] sp_put_end := okF (N := ["line", "ends", "p", "at"]) (ds := d_put_end) F sc_put_end (lenL sp3.len) (fun h => fn_run0 h (pure_put_end rfl)) fun f cdv A outer s H E hr tk po =>
  (pds_cons (pds_set (i := 3) sc_put_end.nd rfl (.inl rfl) pd_int)
  (pds_cons (pds_while po (PW.pt (pdw_and (pdt_lt (pd_var 3) (pd_len (by rfl) m_len (pd_var 1))) (pdw_and1 (pdt_lt (pd_callC c_ahead tk (hr.mono (by decide)) (by rfl) (pda_cons (pd_var 0) (pda_cons (pd_ix (pd_var 1) (pd_var 3) (fun _ _ => rfl)) (pda_cons (pd_var 2) pda_nil)))) pd_int)))) (pds_one (pds_aug (i := 3) ip_add sc_put_end.nd rfl (.inl rfl) pd_int)))
  (pds_one (pds_if (PW.pt (pdw_and (pdt_lt (pd_var 3) (pd_len (by rfl) m_len (pd_var 1))) (pdw_and1 (pdt_eq hr.units (pd_ix (pd_var 1) (pd_var 3) (fun _ _ => rfl)) (pd_var 2))))) (pds_one (pds_expr (pd_popAt (pd_var 1) (pd_var 3)))) (pds_one (pds_expr (pd_ins (pd_var 1) (pd_var 3) (pd_var 2))))))))
theorem ok_either_ends (F : FT K mg "either_ends" s_either_ends ["line", "one", "other"]) (c_put_end : Cal P w K mg base 3 "put_end" ["line", "ends", "p"] sp_put_end) (m_list : mg "list" = none) : Cal P w K mg base 4 "either_ends" ["line", "one", "other"] sp_either_ends := okF (N := ["line", "one", "other", "found", "p"]) (ds := d_either_ends) F sc_either_ends (lenL sp3.len) (fun h => fn_run h (pure_either_ends rfl)) fun f cdv A outer s H E hr tk po =>
  (pds_cons (pds_set (i := 3) sc_either_ends.nd rfl (.inl rfl) (pd_listM (by rfl) m_list (pd_var 1)))
  (pds_cons (pds_for po rfl (pd_var 2) (pdg_name (i := 4) sc_either_ends.nd rfl (.inl rfl)) (pds_one (pds_expr (pd_callC c_put_end tk (hr.mono (by decide)) (by rfl) (pda_cons (pd_var 0) (pda_cons (pd_var 3) (pda_cons (pd_var 4) pda_nil)))))))
  (pds_one (pds_ret (pd_var 3)))))
theorem ok_common_ends (F : FT K mg "common_ends" s_common_ends ["line", "one", "other"]) (c_ahead : Cal P w K mg base 2 "ahead" ["line", "p", "q"] sp_ahead) (m_len : mg "len" = none) : Cal P w K mg base 3 "common_ends" ["line", "one", "other"] sp_common_ends := okF (N := ["line", "one", "other", "found", "left", "right", "was", "first", "p"]) (ds := d_common_ends) F sc_common_ends (lenL sp3.len) (fun h => fn_run h (pure_common_ends rfl)) fun f cdv A outer s H E hr tk po =>
  (pds_cons (pds_set (i := 3) sc_common_ends.nd rfl (.inl rfl) (pd_lstM pda_nil))
  (pds_cons (pds_set (i := 4) sc_common_ends.nd rfl (.inl rfl) pd_int)
  (pds_cons (pds_set (i := 5) sc_common_ends.nd rfl (.inl rfl) pd_int)
  (pds_cons (pds_while po (PW.pt (pdw_and (pdt_lt (pd_var 4) (pd_len (by rfl) m_len (pd_var 1))) (pdw_and1 (pdt_lt (pd_var 5) (pd_len (by rfl) m_len (pd_var 2)))))) (pds_cons (pds_set (i := 6) sc_common_ends.nd rfl (.inl rfl) (pd_and (pd_eq hr.units (pd_mod (pd_var 4) pd_int) pd_int) (pd_one (pd_eq hr.units (pd_mod (pd_var 5) pd_int) pd_int))))
  (pds_cons (pds_set (i := 7) sc_common_ends.nd rfl (.inl rfl) (pd_callC c_ahead tk (hr.mono (by decide)) (by rfl) (pda_cons (pd_var 0) (pda_cons (pd_ix (pd_var 1) (pd_var 4) (fun _ _ => rfl)) (pda_cons (pd_ix (pd_var 2) (pd_var 5) (fun _ _ => rfl)) pda_nil)))))
  (pds_cons (pds_set (i := 8) sc_common_ends.nd rfl (.inl rfl) (pd_ix (pd_var 2) (pd_var 5) (fun _ _ => rfl)))
  (pds_cons (pds_if (pdt_le (pd_var 7) pd_int) (pds_cons (pds_set (i := 8) sc_common_ends.nd rfl (.inl rfl) (pd_ix (pd_var 1) (pd_var 4) (fun _ _ => rfl)))
  (pds_one (pds_aug (i := 4) ip_add sc_common_ends.nd rfl (.inl rfl) pd_int))) pds_nil)
  (pds_cons (pds_if (pdt_ge (pd_var 7) pd_int) (pds_one (pds_aug (i := 5) ip_add sc_common_ends.nd rfl (.inl rfl) pd_int)) pds_nil)
  (pds_one (pds_if (pdt_ne hr.units (pd_var 6) (pd_and (pd_eq hr.units (pd_mod (pd_var 4) pd_int) pd_int) (pd_one (pd_eq hr.units (pd_mod (pd_var 5) pd_int) pd_int)))) (pds_one (pds_expr (pd_app (pd_var 3) (pd_var 8)))) pds_nil))))))))
  (pds_one (pds_ret (pd_var 3)))))))
theorem ok_ends_of (F : FT K mg "ends_of" s_ends_of ["row"]) : Cal P w K mg base 1 "ends_of" ["row"] sp_ends_of := okF (N := ["row", "ends", "p", "q"]) (ds := d_ends_of) F sc_ends_of (lenL sp1.len) (fun h => fn_run h (pure_ends_of rfl)) fun f cdv A outer s H E hr tk po =>
  (pds_cons (pds_set (i := 1) sc_ends_of.nd rfl (.inl rfl) (pd_lstM pda_nil))
  (pds_cons (pds_for po rfl (pd_var 0) (pdg_tup rfl (pdgs_name (i := 2) sc_ends_of.nd rfl (.inl rfl) (pdgs_name (i := 3) sc_ends_of.nd rfl (.inl rfl) pdgs_nil))) (pds_cons (pds_expr (pd_app (pd_var 1) (pd_var 2)))
  (pds_one (pds_expr (pd_app (pd_var 1) (pd_var 3))))))
  (pds_one (pds_ret (pd_var 1)))))
theorem ok_row_from (F : FT K mg "row_from" s_row_from ["ends"]) (m_len : mg "len" = none) (m_range : mg "range" = none) (m_tuple : mg "tuple" = none) : Cal P w K mg base 1 "row_from" ["ends"] sp_row_from := okF (N := ["ends", "at"]) (ds := d_row_from) F sc_row_from (lenL sp1.len) (fun h => fn_run0 h (pure_row_from rfl)) fun f cdv A outer s H E hr tk po =>
  (pds_one (pds_ret (pd_tuple (by rfl) m_tuple (pd_lcR3 (j := 1) rfl sc_row_from.nd (by rfl) m_range (pda_cons pd_int (pda_cons (pd_len (by rfl) m_len (pd_var 0)) (pda_cons pd_int pda_nil))) (blkOk_by (N := ["ends", "at"]) (sc := defScope s_row_from) (own := [("at", 1)]) (by decide +kernel)) (fun _ _ _ _ _ => pg_name (i := 1) sc_row_from.nd rfl (by first | exact .inl rfl | exact .inr rfl)) (fun _ _ _ _ _ => (pd_tup (pda_cons (pd_ix (pd_var 0) (pd_var 1) (fun _ _ => rfl)) (pda_cons (pd_ix (pd_var 0) (pd_add (pd_var 1) pd_int) (fun _ _ => rfl)) pda_nil))))))))
theorem ok_row_either (F : FT K mg "row_either" s_row_either ["line", "one", "other"]) (c_row_from : Cal P w K mg base 1 "row_from" ["ends"] sp_row_from) (c_either_ends : Cal P w K mg base 4 "either_ends" ["line", "one", "other"] sp_either_ends) (c_ends_of : Cal P w K mg base 1 "ends_of" ["row"] sp_ends_of) : Cal P w K mg base 5 "row_either" ["line", "one", "other"] sp_row_either := okF (N := ["line", "one", "other"]) (ds := d_row_either) F sc_row_either (lenL sp3.len) (fun h => fn_run0 h (pure_row_either rfl)) fun f cdv A outer s H E hr tk po =>
  (pds_one (pds_ret (pd_callC c_row_from tk (hr.mono (by decide)) (by rfl) (pda_cons (pd_callC c_either_ends tk (hr.mono (by decide)) (by rfl) (pda_cons (pd_var 0) (pda_cons (pd_callC c_ends_of tk (hr.mono (by decide)) (by rfl) (pda_cons (pd_var 1) pda_nil)) (pda_cons (pd_callC c_ends_of tk (hr.mono (by decide)) (by rfl) (pda_cons (pd_var 2) pda_nil)) pda_nil)))) pda_nil))))
theorem ok_row_common (F : FT K mg "row_common" s_row_common ["line", "one", "other"]) (c_row_from : Cal P w K mg base 1 "row_from" ["ends"] sp_row_from) (c_common_ends : Cal P w K mg base 3 "common_ends" ["line", "one", "other"] sp_common_ends) (c_ends_of : Cal P w K mg base 1 "ends_of" ["row"] sp_ends_of) : Cal P w K mg base 4 "row_common" ["line", "one", "other"] sp_row_common := okF (N := ["line", "one", "other"]) (ds := d_row_common) F sc_row_common (lenL sp3.len) (fun h => fn_run0 h (pure_row_common rfl)) fun f cdv A outer s H E hr tk po =>
  (pds_one (pds_ret (pd_callC c_row_from tk (hr.mono (by decide)) (by rfl) (pda_cons (pd_callC c_common_ends tk (hr.mono (by decide)) (by rfl) (pda_cons (pd_var 0) (pda_cons (pd_callC c_ends_of tk (hr.mono (by decide)) (by rfl) (pda_cons (pd_var 1) pda_nil)) (pda_cons (pd_callC c_ends_of tk (hr.mono (by decide)) (by rfl) (pda_cons (pd_var 2) pda_nil)) pda_nil)))) pda_nil))))
theorem ok_row_less (F : FT K mg "row_less" s_row_less ["line", "one", "other"]) (c_row_either : Cal P w K mg base 5 "row_either" ["line", "one", "other"] sp_row_either) (c_row_common : Cal P w K mg base 4 "row_common" ["line", "one", "other"] sp_row_common) : Cal P w K mg base 6 "row_less" ["line", "one", "other"] sp_row_less := okF (N := ["line", "one", "other"]) (ds := d_row_less) F sc_row_less (lenL sp3.len) (fun h => fn_run0 h (pure_row_less rfl)) fun f cdv A outer s H E hr tk po =>
  (pds_one (pds_ret (pd_callC c_row_either tk (hr.mono (by decide)) (by rfl) (pda_cons (pd_var 0) (pda_cons (pd_var 1) (pda_cons (pd_callC c_row_common tk (hr.mono (by decide)) (by rfl) (pda_cons (pd_var 0) (pda_cons (pd_var 1) (pda_cons (pd_var 2) pda_nil)))) pda_nil))))))
theorem ok_row_joined (F : FT K mg "row_joined" s_row_joined ["line", "one", "other"]) (c_row_either : Cal P w K mg base 5 "row_either" ["line", "one", "other"] sp_row_either) (c_row_common : Cal P w K mg base 4 "row_common" ["line", "one", "other"] sp_row_common) : Cal P w K mg base 6 "row_joined" ["line", "one", "other"] sp_row_joined := okF (N := ["line", "one", "other"]) (ds := d_row_joined) F sc_row_joined (lenL sp3.len) (fun h => fn_run0 h (pure_row_joined rfl)) fun f cdv A outer s H E hr tk po =>
  (pds_one (pds_ret (pd_callC c_row_either tk (hr.mono (by decide)) (by rfl) (pda_cons (pd_var 0) (pda_cons (pd_callC c_row_either tk (hr.mono (by decide)) (by rfl) (pda_cons (pd_var 0) (pda_cons (pd_var 1) (pda_cons (pd_var 2) pda_nil)))) (pda_cons (pd_callC c_row_common tk (hr.mono (by decide)) (by rfl) (pda_cons (pd_var 0) (pda_cons (pd_var 1) (pda_cons (pd_var 2) pda_nil)))) pda_nil))))))
theorem ok__law_row (F : FT K mg "_law_row" s__law_row ["_law_script"]) (m_enumerate : mg "enumerate" = none) : Cal P w K mg base 1 "_law_row" ["_law_script"] sp_l_row := okF (N := ["_law_script", "_law_row_here", "_law_k", "_law_cell", "_law_one", "_law_two_here", "_law_three"]) (ds := d_l_row) F sc__law_row (lenL sp1.len) (fun h => fn_run h (pure_l_row rfl)) fun f cdv A outer s H E hr tk po =>
  (pds_cons (pds_set (i := 1) sc__law_row.nd rfl (.inl rfl) (pd_lstM pda_nil))
  (pds_cons (pds_forE po rfl (by rfl) m_enumerate (pda_cons (pd_sl (pd_var 0) pdo_none (pdo_some pd_int)) pda_nil) (pdg_tup rfl (pdgs_name (i := 2) sc__law_row.nd rfl (.inl rfl) (pdgs_name (i := 3) sc__law_row.nd rfl (.inl rfl) pdgs_nil))) (pds_one (pds_if (pdt_ge (pd_var 3) (pd_pow pd_int pd_int)) (pds_one (pds_expr (pd_app (pd_var 1) (pd_sub (pd_var 3) (pd_pow pd_int pd_int))))) (pds_cons (pds_set (i := 4) sc__law_row.nd rfl (.inl rfl) (pd_mod (pd_mul (pd_add (pd_add (pd_add (pd_var 3) (pd_mul (pd_mul pd_int (pd_var 2)) (pd_var 2))) (pd_mul pd_int (pd_var 2))) pd_int) pd_int) pd_int))
  (pds_cons (pds_set (i := 5) sc__law_row.nd rfl (.inl rfl) (pd_mod (pd_mul (pd_add (pd_add (pd_add (pd_var 3) (pd_mul (pd_mul pd_int (pd_var 2)) (pd_var 2))) (pd_mul pd_int (pd_var 2))) pd_int) pd_int) pd_int))
  (pds_cons (pds_set (i := 6) sc__law_row.nd rfl (.inl rfl) (pd_mod (pd_mul (pd_add (pd_add (pd_add (pd_var 3) (pd_mul (pd_mul pd_int (pd_var 2)) (pd_var 2))) (pd_mul pd_int (pd_var 2))) pd_int) pd_int) pd_int))
  (pds_cons (pds_set (i := 4) sc__law_row.nd rfl (.inl rfl) (pd_mod (pd_mul (pd_var 4) pd_int) pd_int))
  (pds_cons (pds_set (i := 5) sc__law_row.nd rfl (.inl rfl) (pd_mod (pd_mul (pd_var 5) pd_int) pd_int))
  (pds_cons (pds_set (i := 6) sc__law_row.nd rfl (.inl rfl) (pd_mod (pd_mul (pd_var 6) pd_int) pd_int))
  (pds_one (pds_expr (pd_app (pd_var 1) (pd_add (pd_mul (pd_add (pd_mul (pd_var 4) pd_int) (pd_var 5)) pd_int) (pd_var 6))))))))))))))
  (pds_one (pds_ret (pd_var 1)))))
theorem ok__law_take (F : FT K mg "_law_take" s__law_take ["_law_row_here", "_law_many"]) (m_len : mg "len" = none) : Cal P w K mg base 1 "_law_take" ["_law_row_here", "_law_many"] sp_l_take := okF (N := ["_law_row_here", "_law_many", "_law_found"]) (ds := d_l_take) F sc__law_take (lenL sp2.len) (fun h => fn_runG h pure_l_take) fun f cdv A outer s H E hr tk po =>
  (pds_cons (pds_while po (PW.pt (pdw_and (pdt_gt (pd_len (by rfl) m_len (pd_var 0)) pd_int) (pdw_and1 (pdt_eq hr.units (pd_ix (pd_var 0) pd_int (fun _ _ => rfl)) pd_int)))) (pds_one (pds_expr (pd_popAt (pd_var 0) pd_int))))
  (pds_cons (pds_if (pdt_eq hr.units (pd_len (by rfl) m_len (pd_var 0)) pd_int) (pds_one (pds_ret pd_int)) pds_nil)
  (pds_cons (pds_set (i := 2) sc__law_take.nd rfl (.inl rfl) (pd_mod (pd_ix (pd_var 0) pd_int (fun _ _ => rfl)) (pd_var 1)))
  (pds_cons (pds_asg (pd_div (pd_ix (pd_var 0) pd_int (fun _ _ => rfl)) (pd_var 1)) (pdg_sub (pd_var 0) pd_int))
  (pds_one (pds_ret (pd_var 2)))))))
theorem ok__law_gcd (F : FT K mg "_law_gcd" s__law_gcd ["_law_one", "_law_other"]) (m_abs : mg "abs" = none) : Cal P w K mg base 1 "_law_gcd" ["_law_one", "_law_other"] sp_divisor := okF (N := ["_law_one", "_law_other"]) (ds := d_divisor) F sc__law_gcd (lenL sp2.len) (fun h => fn_run0 h (pure_divisor rfl)) fun f cdv A outer s H E hr tk po =>
  (pds_cons (pds_set (i := 0) sc__law_gcd.nd rfl (.inl rfl) (pd_abs (by rfl) m_abs (pd_var 0)))
  (pds_cons (pds_set (i := 1) sc__law_gcd.nd rfl (.inl rfl) (pd_abs (by rfl) m_abs (pd_var 1)))
  (pds_cons (pds_while po (pdt_gt (pd_var 1) pd_int) (pds_one (pds_par (i := 0) (j := 1) rfl sc__law_gcd.nd rfl rfl (by decide) rfl rfl (pda_cons (pd_var 1) (pda_cons (pd_mod (pd_var 0) (pd_var 1)) pda_nil)))))
  (pds_one (pds_ret (pd_var 0))))))
theorem ok__law_lowest (F : FT K mg "_law_lowest" s__law_lowest ["_law_numbers"]) (c__law_gcd : Cal P w K mg base 1 "_law_gcd" ["_law_one", "_law_other"] sp_divisor) (m_tuple : mg "tuple" = none) : Cal P w K mg base 2 "_law_lowest" ["_law_numbers"] sp_l_lowest := okF (N := ["_law_numbers", "_law_by", "_law_number"]) (ds := d_l_lowest) F sc__law_lowest (lenL sp1.len) (fun h => fn_run0 h (pure_l_lowest rfl)) fun f cdv A outer s H E hr tk po =>
  (pds_cons (pds_set (i := 1) sc__law_lowest.nd rfl (.inr rfl) pd_int)
  (pds_cons (pds_for po rfl (pd_var 0) (pdg_name (i := 2) sc__law_lowest.nd rfl (.inl rfl)) (pds_one (pds_set (i := 1) sc__law_lowest.nd rfl (.inr rfl) (pd_callC c__law_gcd tk (hr.mono (by decide)) (by rfl) (pda_cons (pd_var 1) (pda_cons (pd_var 2) pda_nil))))))
  (pds_cons (pds_if (pdt_eq hr.units (pd_var 1) pd_int) (pds_one (pds_ret (pd_tuple (by rfl) m_tuple (pd_var 0)))) pds_nil)
  (pds_one (pds_ret (pd_tuple (by rfl) m_tuple (pd_lc (j := 2) rfl sc__law_lowest.nd (pd_var 0) (blkOk_by (N := ["_law_numbers", "_law_by", "_law_number"]) (sc := defScope s__law_lowest) (own := [("_law_number", 2)]) (by decide +kernel)) (fun _ _ _ _ _ => pg_name (i := 2) sc__law_lowest.nd rfl (by first | exact .inl rfl | exact .inr rfl)) (fun _ _ _ _ _ => (pd_div (pd_var 2) (pd_var 1))))))))))
theorem ok__law_point (F : FT K mg "_law_point" s__law_point ["_law_row_here", "_law_size", "_law_bottom"]) (c__law_take : Cal P w K mg base 1 "_law_take" ["_law_row_here", "_law_many"] sp_l_take) (c__law_lowest : Cal P w K mg base 2 "_law_lowest" ["_law_numbers"] sp_l_lowest) (m_range : mg "range" = none) : Cal P w K mg base 3 "_law_point" ["_law_row_here", "_law_size", "_law_bottom"] sp_l_point := okF (N := ["_law_row_here", "_law_size", "_law_bottom", "_law_under", "_law_many", "_law_tops", "_law_k"]) (ds := d_l_point) F sc__law_point (lenL sp3.len) (fun h => fn_run0 h (pure_l_point rfl)) fun f cdv A outer s H E hr tk po =>
  (pds_cons (pds_set (i := 3) sc__law_point.nd rfl (.inl rfl) (pd_add pd_int (pd_callC c__law_take tk (hr.mono (by decide)) (by rfl) (pda_cons (pd_var 0) (pda_cons (pd_var 2) pda_nil)))))
  (pds_cons (pds_set (i := 4) sc__law_point.nd rfl (.inr rfl) (pd_add (pd_mul pd_int (pd_var 1)) pd_int))
  (pds_cons (pds_setLcR (j := 6) (i := 5) rfl sc__law_point.nd rfl rfl (sw_true rfl rfl rfl (by decide +kernel)) (by rfl) m_range (pda_cons pd_int pda_nil) (blkOk_by (N := ["_law_row_here", "_law_size", "_law_bottom", "_law_under", "_law_many", "_law_tops", "_law_k"]) (sc := defScope s__law_point) (own := [("_law_k", 6)]) (by decide +kernel)) (fun _ _ _ _ _ => pg_name (i := 6) sc__law_point.nd rfl (by first | exact .inl rfl | exact .inr rfl)) (fun _ _ _ _ _ => (pd_sub (pd_callC c__law_take takes0 (hr.mono (by decide)) (by rfl) (pda_cons (pd_var 0) (pda_cons (pd_var 4) pda_nil))) (pd_var 1))))
  (pds_one (pds_ret (pd_callC c__law_lowest tk (hr.mono (by decide)) (by rfl) (pda_cons (pd_add (pd_var 5) (pd_lst (pda_cons (pd_var 3) pda_nil))) pda_nil)))))))
theorem ok__law_free (F : FT K mg "_law_free" s__law_free ["_law_row_here"]) (c__law_take : Cal P w K mg base 1 "_law_take" ["_law_row_here", "_law_many"] sp_l_take) (c__law_point : Cal P w K mg base 3 "_law_point" ["_law_row_here", "_law_size", "_law_bottom"] sp_l_point) : Cal P w K mg base 4 "_law_free" ["_law_row_here"] sp_l_free := okF (N := ["_law_row_here", "_law_size", "_law_bottom"]) (ds := d_l_free) F sc__law_free (lenL sp1.len) (fun h => fn_run0 h (pure_l_free rfl)) fun f cdv A outer s H E hr tk po =>
  (pds_cons (pds_set (i := 1) sc__law_free.nd rfl (.inl rfl) (pd_ix (pd_lst (pda_cons pd_int (pda_cons pd_int (pda_cons (pd_pow pd_int pd_int) pda_nil)))) (pd_callC c__law_take tk (hr.mono (by decide)) (by rfl) (pda_cons (pd_var 0) (pda_cons pd_int pda_nil))) (fun _ _ => rfl)))
  (pds_cons (pds_set (i := 2) sc__law_free.nd rfl (.inl rfl) (pd_ix (pd_lst (pda_cons pd_int (pda_cons pd_int (pda_cons pd_int pda_nil)))) (pd_callC c__law_take tk (hr.mono (by decide)) (by rfl) (pda_cons (pd_var 0) (pda_cons pd_int pda_nil))) (fun _ _ => rfl)))
  (pds_one (pds_ret (pd_callC c__law_point tk (hr.mono (by decide)) (by rfl) (pda_cons (pd_var 0) (pda_cons (pd_var 1) (pda_cons (pd_var 2) pda_nil))))))))
theorem ok__law_two (F : FT K mg "_law_two" s__law_two ["_law_row_here"]) (c__law_free : Cal P w K mg base 4 "_law_free" ["_law_row_here"] sp_l_free) (c__law_take : Cal P w K mg base 1 "_law_take" ["_law_row_here", "_law_many"] sp_l_take) (c__law_lowest : Cal P w K mg base 2 "_law_lowest" ["_law_numbers"] sp_l_lowest) (m_range : mg "range" = none) : Cal P w K mg base 5 "_law_two" ["_law_row_here"] sp_l_two := okF (N := ["_law_row_here", "_law_p", "_law_q", "_law_step_here", "_law_far", "_law_k"]) (ds := d_l_two) F sc__law_two (lenL sp1.len) (fun h => fn_run h (pure_l_two rfl)) fun f cdv A outer s H E hr tk po =>
  (pds_cons (pds_set (i := 1) sc__law_two.nd rfl (.inr rfl) (pd_callC c__law_free tk (hr.mono (by decide)) (by rfl) (pda_cons (pd_var 0) pda_nil)))
  (pds_cons (pds_set (i := 2) sc__law_two.nd rfl (.inl rfl) (pd_callC c__law_free tk (hr.mono (by decide)) (by rfl) (pda_cons (pd_var 0) pda_nil)))
  (pds_cons (pds_if (PW.pt (pdw_or (pdt_eq hr.units (pd_callC c__law_take tk (hr.mono (by decide)) (by rfl) (pda_cons (pd_var 0) (pda_cons pd_int pda_nil))) pd_int) (pdw_or1 (pdt_eq hr.units (pd_var 2) (pd_var 1))))) (pds_cons (pds_set (i := 3) sc__law_two.nd rfl (.inr rfl) (pd_lstM (pda_cons pd_int (pda_cons pd_int (pda_cons pd_int pda_nil)))))
  (pds_cons (pds_asg (pd_ix (pd_lst (pda_cons pd_int (pda_cons (pd_neg pd_int) (pda_cons pd_int pda_nil)))) (pd_callC c__law_take tk (hr.mono (by decide)) (by rfl) (pda_cons (pd_var 0) (pda_cons pd_int pda_nil))) (fun _ _ => rfl)) (pdg_sub (pd_var 3) (pd_callC c__law_take tk (hr.mono (by decide)) (by rfl) (pda_cons (pd_var 0) (pda_cons pd_int pda_nil)))))
  (pds_cons (pds_setLcR (j := 5) (i := 4) rfl sc__law_two.nd rfl rfl (sw_true rfl rfl rfl (by decide +kernel)) (by rfl) m_range (pda_cons pd_int pda_nil) (blkOk_by (N := ["_law_row_here", "_law_p", "_law_q", "_law_step_here", "_law_far", "_law_k"]) (sc := defScope s__law_two) (own := [("_law_k", 5)]) (by decide +kernel)) (fun _ _ _ _ _ => pg_name (i := 5) sc__law_two.nd rfl (by first | exact .inl rfl | exact .inr rfl)) (fun _ _ _ _ _ => (pd_add (pd_ix (pd_var 1) (pd_var 5) (fun _ _ => rfl)) (pd_mul (pd_ix (pd_var 3) (pd_var 5) (fun _ _ => rfl)) (pd_ix (pd_var 1) pd_int (fun _ _ => rfl))))))
  (pds_one (pds_set (i := 2) sc__law_two.nd rfl (.inl rfl) (pd_callC c__law_lowest tk (hr.mono (by decide)) (by rfl) (pda_cons (pd_add (pd_var 4) (pd_lst (pda_cons (pd_ix (pd_var 1) pd_int (fun _ _ => rfl)) pda_nil))) pda_nil))))))) pds_nil)
  (pds_one (pds_ret (pd_lst (pda_cons (pd_var 1) (pda_cons (pd_var 2) pda_nil))))))))
theorem ok__law_arrow (F : FT K mg "_law_arrow" s__law_arrow ["_law_p", "_law_q"]) (m_range : mg "range" = none) : Cal P w K mg base 1 "_law_arrow" ["_law_p", "_law_q"] sp_l_arrow := okF (N := ["_law_p", "_law_q", "_law_k"]) (ds := d_l_arrow) F sc__law_arrow (lenL sp2.len) (fun h => fn_run0 h (pure_l_arrow rfl)) fun f cdv A outer s H E hr tk po =>
  (pds_one (pds_ret (pd_lcR (j := 2) rfl sc__law_arrow.nd (by rfl) m_range (pda_cons pd_int pda_nil) (blkOk_by (N := ["_law_p", "_law_q", "_law_k"]) (sc := defScope s__law_arrow) (own := [("_law_k", 2)]) (by decide +kernel)) (fun _ _ _ _ _ => pg_name (i := 2) sc__law_arrow.nd rfl (by first | exact .inl rfl | exact .inr rfl)) (fun _ _ _ _ _ => (pd_sub (pd_mul (pd_ix (pd_var 1) (pd_var 2) (fun _ _ => rfl)) (pd_ix (pd_var 0) pd_int (fun _ _ => rfl))) (pd_mul (pd_ix (pd_var 0) (pd_var 2) (fun _ _ => rfl)) (pd_ix (pd_var 1) pd_int (fun _ _ => rfl))))))))
theorem ok__law_cross (F : FT K mg "_law_cross" s__law_cross ["_law_u", "_law_v"]) : Cal P w K mg base 1 "_law_cross" ["_law_u", "_law_v"] sp_l_cross := okF (N := ["_law_u", "_law_v", "_law_x", "_law_y", "_law_z"]) (ds := d_l_cross) F sc__law_cross (lenL sp2.len) (fun h => fn_run0 h (pure_l_cross rfl)) fun f cdv A outer s H E hr tk po =>
  (pds_cons (pds_set (i := 2) sc__law_cross.nd rfl (.inl rfl) (pd_sub (pd_mul (pd_ix (pd_var 0) pd_int (fun _ _ => rfl)) (pd_ix (pd_var 1) pd_int (fun _ _ => rfl))) (pd_mul (pd_ix (pd_var 0) pd_int (fun _ _ => rfl)) (pd_ix (pd_var 1) pd_int (fun _ _ => rfl)))))
  (pds_cons (pds_set (i := 3) sc__law_cross.nd rfl (.inl rfl) (pd_sub (pd_mul (pd_ix (pd_var 0) pd_int (fun _ _ => rfl)) (pd_ix (pd_var 1) pd_int (fun _ _ => rfl))) (pd_mul (pd_ix (pd_var 0) pd_int (fun _ _ => rfl)) (pd_ix (pd_var 1) pd_int (fun _ _ => rfl)))))
  (pds_cons (pds_set (i := 4) sc__law_cross.nd rfl (.inl rfl) (pd_sub (pd_mul (pd_ix (pd_var 0) pd_int (fun _ _ => rfl)) (pd_ix (pd_var 1) pd_int (fun _ _ => rfl))) (pd_mul (pd_ix (pd_var 0) pd_int (fun _ _ => rfl)) (pd_ix (pd_var 1) pd_int (fun _ _ => rfl)))))
  (pds_one (pds_ret (pd_lst (pda_cons (pd_var 2) (pda_cons (pd_var 3) (pda_cons (pd_var 4) pda_nil)))))))))
theorem ok__law_line (F : FT K mg "_law_line" s__law_line ["_law_p", "_law_q"]) (c__law_arrow : Cal P w K mg base 1 "_law_arrow" ["_law_p", "_law_q"] sp_l_arrow) (c__law_cross : Cal P w K mg base 1 "_law_cross" ["_law_u", "_law_v"] sp_l_cross) (c__law_lowest : Cal P w K mg base 2 "_law_lowest" ["_law_numbers"] sp_l_lowest) (m_tuple : mg "tuple" = none) : Cal P w K mg base 3 "_law_line" ["_law_p", "_law_q"] sp_l_line := okF (N := ["_law_p", "_law_q", "_law_six", "_law_number", "_law_one"]) (ds := d_l_line) F sc__law_line (lenL sp2.len) (fun h => fn_run0 h (pure_l_line rfl)) fun f cdv A outer s H E hr tk po =>
  (pds_cons (pds_set (i := 2) sc__law_line.nd rfl (.inl rfl) (pd_add (pd_callC c__law_arrow tk (hr.mono (by decide)) (by rfl) (pda_cons (pd_var 0) (pda_cons (pd_var 1) pda_nil))) (pd_callC c__law_cross tk (hr.mono (by decide)) (by rfl) (pda_cons (pd_var 0) (pda_cons (pd_var 1) pda_nil)))))
  (pds_cons (pds_set (i := 2) sc__law_line.nd rfl (.inl rfl) (pd_callC c__law_lowest tk (hr.mono (by decide)) (by rfl) (pda_cons (pd_var 2) pda_nil)))
  (pds_cons (pds_for po rfl (pd_sl (pd_var 2) pdo_none (pdo_some pd_int)) (pdg_name (i := 3) sc__law_line.nd rfl (.inl rfl)) (pds_cons (pds_if (pdt_gt (pd_var 3) pd_int) (pds_one (pds_ret (pd_var 2))) pds_nil)
  (pds_one (pds_if (pdt_lt (pd_var 3) pd_int) (pds_one (pds_ret (pd_tuple (by rfl) m_tuple (pd_lc (j := 4) rfl sc__law_line.nd (pd_var 2) (blkOk_by (N := ["_law_p", "_law_q", "_law_six", "_law_number", "_law_one"]) (sc := defScope s__law_line) (own := [("_law_one", 4)]) (by decide +kernel)) (fun _ _ _ _ _ => pg_name (i := 4) sc__law_line.nd rfl (by first | exact .inl rfl | exact .inr rfl)) (fun _ _ _ _ _ => (pd_neg (pd_var 4))))))) pds_nil))))
  (pds_one (pds_ret (pd_var 2))))))
theorem ok__law_dot (F : FT K mg "_law_dot" s__law_dot ["_law_u", "_law_v"]) : Cal P w K mg base 1 "_law_dot" ["_law_u", "_law_v"] sp_dot := okF (N := ["_law_u", "_law_v"]) (ds := d_dot) F sc__law_dot (lenL sp2.len) (fun h => fn_run0 h (pure_dot rfl)) fun f cdv A outer s H E hr tk po =>
  (pds_one (pds_ret (pd_add (pd_add (pd_mul (pd_ix (pd_var 0) pd_int (fun _ _ => rfl)) (pd_ix (pd_var 1) pd_int (fun _ _ => rfl))) (pd_mul (pd_ix (pd_var 0) pd_int (fun _ _ => rfl)) (pd_ix (pd_var 1) pd_int (fun _ _ => rfl)))) (pd_mul (pd_ix (pd_var 0) pd_int (fun _ _ => rfl)) (pd_ix (pd_var 1) pd_int (fun _ _ => rfl))))))
theorem ok__law_line_by (F : FT K mg "_law_line_by" s__law_line_by ["_law_row_here"]) (c__law_two : Cal P w K mg base 5 "_law_two" ["_law_row_here"] sp_l_two) (c__law_line : Cal P w K mg base 3 "_law_line" ["_law_p", "_law_q"] sp_l_line) (c__law_dot : Cal P w K mg base 1 "_law_dot" ["_law_u", "_law_v"] sp_dot) (c__law_arrow : Cal P w K mg base 1 "_law_arrow" ["_law_p", "_law_q"] sp_l_arrow) (c__law_take : Cal P w K mg base 1 "_law_take" ["_law_row_here", "_law_many"] sp_l_take) : Cal P w K mg base 6 "_law_line_by" ["_law_row_here"] sp_l_line_by := okF (N := ["_law_row_here", "_law_p", "_law_q", "_law_line_here"]) (ds := d_l_line_by) F sc__law_line_by (lenL sp1.len) (fun h => fn_run0 h (pure_l_line_by rfl)) fun f cdv A outer s H E hr tk po =>
  (pds_cons (pds_asg (pd_callC c__law_two tk (hr.mono (by decide)) (by rfl) (pda_cons (pd_var 0) pda_nil)) (pdg_tup rfl (pdgs_name (i := 1) sc__law_line_by.nd rfl (.inl rfl) (pdgs_name (i := 2) sc__law_line_by.nd rfl (.inl rfl) pdgs_nil))))
  (pds_cons (pds_set (i := 3) sc__law_line_by.nd rfl (.inl rfl) (pd_callC c__law_line tk (hr.mono (by decide)) (by rfl) (pda_cons (pd_var 1) (pda_cons (pd_var 2) pda_nil))))
  (pds_cons (pds_if (pdt_lt (pd_callC c__law_dot tk (hr.mono (by decide)) (by rfl) (pda_cons (pd_var 3) (pda_cons (pd_callC c__law_arrow tk (hr.mono (by decide)) (by rfl) (pda_cons (pd_var 1) (pda_cons (pd_var 2) pda_nil))) pda_nil))) pd_int) (pds_one (pds_par (i := 1) (j := 2) rfl sc__law_line_by.nd rfl rfl (by decide) rfl rfl (pda_cons (pd_var 2) (pda_cons (pd_var 1) pda_nil)))) pds_nil)
  (pds_one (pds_ret (pd_lst (pda_cons (pd_var 3) (pda_cons (pd_var 1) (pda_cons (pd_var 2) (pda_cons (pd_add pd_int (pd_callC c__law_take tk (hr.mono (by decide)) (by rfl) (pda_cons (pd_var 0) (pda_cons pd_int pda_nil)))) pda_nil))))))))))
theorem ok__law_ends (F : FT K mg "_law_ends" s__law_ends ["_law_spots_here"]) (m_sorted : mg "sorted" = none) : Cal P w K mg base 1 "_law_ends" ["_law_spots_here"] sp_l_ends := okF (N := ["_law_spots_here", "_law_ends_here", "_law_k"]) (ds := d_l_ends) F sc__law_ends (lenL sp1.len) (fun h => fn_run h (pure_l_ends rfl)) fun f cdv A outer s H E hr tk po =>
  (pds_cons (pds_set (i := 1) sc__law_ends.nd rfl (.inl rfl) (pd_lstM pda_nil))
  (pds_cons (pds_for po rfl (pd_sorted (by rfl) m_sorted (pd_var 0)) (pdg_name (i := 2) sc__law_ends.nd rfl (.inl rfl)) (pds_one (pds_if (pdt_inD (Room.units5 hr) (pd_var 2) (pd_var 1) (by with_unfolding_all rfl)) (pds_one (pds_expr (pd_rem rfl tk (pd_var 1) (pd_var 2)))) (pds_one (pds_expr (pd_app (pd_var 1) (pd_var 2)))))))
  (pds_one (pds_ret (pd_var 1)))))
theorem ok__law_spots (F : FT K mg "_law_spots" s__law_spots ["_law_row_here"]) (c__law_take : Cal P w K mg base 1 "_law_take" ["_law_row_here", "_law_many"] sp_l_take) (m_range : mg "range" = none) : Cal P w K mg base 2 "_law_spots" ["_law_row_here"] sp_l_spots := okF (N := ["_law_row_here", "_law_most", "_law_many", "_law_k"]) (ds := d_l_spots) F sc__law_spots (lenL sp1.len) (fun h => fn_run0 h (pure_l_spots rfl)) fun f cdv A outer s H E hr tk po =>
  (pds_cons (pds_set (i := 1) sc__law_spots.nd rfl (.inr rfl) (pd_ix (pd_lst (pda_cons pd_int (pda_cons pd_int (pda_cons pd_int (pda_cons (pd_pow pd_int pd_int) pda_nil))))) (pd_callC c__law_take tk (hr.mono (by decide)) (by rfl) (pda_cons (pd_var 0) (pda_cons pd_int pda_nil))) (fun _ _ => rfl)))
  (pds_cons (pds_set (i := 2) sc__law_spots.nd rfl (.inl rfl) (pd_mul pd_int (pd_callC c__law_take tk (hr.mono (by decide)) (by rfl) (pda_cons (pd_var 0) (pda_cons (pd_ix (pd_lst (pda_cons pd_int (pda_cons pd_int (pda_cons pd_int pda_nil)))) (pd_callC c__law_take tk (hr.mono (by decide)) (by rfl) (pda_cons (pd_var 0) (pda_cons pd_int pda_nil))) (fun _ _ => rfl)) pda_nil)))))
  (pds_one (pds_ret (pd_lcR (j := 3) rfl sc__law_spots.nd (by rfl) m_range (pda_cons (pd_var 2) pda_nil) (blkOk_by (N := ["_law_row_here", "_law_most", "_law_many", "_law_k"]) (sc := defScope s__law_spots) (own := [("_law_k", 3)]) (by decide +kernel)) (fun _ _ _ _ _ => pg_name (i := 3) sc__law_spots.nd rfl (by first | exact .inl rfl | exact .inr rfl)) (fun _ _ _ _ _ => (pd_sub (pd_callC c__law_take takes0 (hr.mono (by decide)) (by rfl) (pda_cons (pd_var 0) (pda_cons (pd_add (pd_mul pd_int (pd_var 1)) pd_int) pda_nil))) (pd_var 1))))))))
theorem ok__law_along (F : FT K mg "_law_along" s__law_along ["_law_p", "_law_q", "_law_k", "_law_m"]) (c__law_lowest : Cal P w K mg base 2 "_law_lowest" ["_law_numbers"] sp_l_lowest) (m_range : mg "range" = none) : Cal P w K mg base 3 "_law_along" ["_law_p", "_law_q", "_law_k", "_law_m"] sp_l_along := okF (N := ["_law_p", "_law_q", "_law_k", "_law_m", "_law_one", "_law_two_here", "_law_far", "_law_i"]) (ds := d_l_along) F sc__law_along (lenL sp4.len) (fun h => fn_run0 h (pure_l_along rfl)) fun f cdv A outer s H E hr tk po =>
  (pds_cons (pds_set (i := 4) sc__law_along.nd rfl (.inr rfl) (pd_mul (pd_ix (pd_var 1) pd_int (fun _ _ => rfl)) (pd_sub (pd_var 3) (pd_var 2))))
  (pds_cons (pds_set (i := 5) sc__law_along.nd rfl (.inr rfl) (pd_mul (pd_ix (pd_var 0) pd_int (fun _ _ => rfl)) (pd_var 2)))
  (pds_cons (pds_setLcR (j := 7) (i := 6) rfl sc__law_along.nd rfl rfl (sw_true rfl rfl rfl (by decide +kernel)) (by rfl) m_range (pda_cons pd_int pda_nil) (blkOk_by (N := ["_law_p", "_law_q", "_law_k", "_law_m", "_law_one", "_law_two_here", "_law_far", "_law_i"]) (sc := defScope s__law_along) (own := [("_law_i", 7)]) (by decide +kernel)) (fun _ _ _ _ _ => pg_name (i := 7) sc__law_along.nd rfl (by first | exact .inl rfl | exact .inr rfl)) (fun _ _ _ _ _ => (pd_add (pd_mul (pd_ix (pd_var 0) (pd_var 7) (fun _ _ => rfl)) (pd_var 4)) (pd_mul (pd_ix (pd_var 1) (pd_var 7) (fun _ _ => rfl)) (pd_var 5)))))
  (pds_one (pds_ret (pd_callC c__law_lowest tk (hr.mono (by decide)) (by rfl) (pda_cons (pd_add (pd_var 6) (pd_lst (pda_cons (pd_mul (pd_mul (pd_var 3) (pd_ix (pd_var 0) pd_int (fun _ _ => rfl))) (pd_ix (pd_var 1) pd_int (fun _ _ => rfl))) pda_nil))) pda_nil)))))))
theorem ok__law_step (F : FT K mg "_law_step" s__law_step ["_law_base", "_law_k"]) (c__law_along : Cal P w K mg base 3 "_law_along" ["_law_p", "_law_q", "_law_k", "_law_m"] sp_l_along) : Cal P w K mg base 4 "_law_step" ["_law_base", "_law_k"] sp_l_step := okF (N := ["_law_base", "_law_k"]) (ds := d_l_step) F sc__law_step (lenL sp2.len) (fun h => fn_run0 h (pure_l_step rfl)) fun f cdv A outer s H E hr tk po =>
  (pds_one (pds_ret (pd_callC c__law_along tk (hr.mono (by decide)) (by rfl) (pda_cons (pd_ix (pd_var 0) pd_int (fun _ _ => rfl)) (pda_cons (pd_ix (pd_var 0) pd_int (fun _ _ => rfl)) (pda_cons (pd_var 1) (pda_cons (pd_ix (pd_var 0) pd_int (fun _ _ => rfl)) pda_nil)))))))
theorem ok__law_pairs (F : FT K mg "_law_pairs" s__law_pairs ["_law_base", "_law_ends_here"]) (c__law_step : Cal P w K mg base 4 "_law_step" ["_law_base", "_law_k"] sp_l_step) (m_len : mg "len" = none) (m_range : mg "range" = none) (m_tuple : mg "tuple" = none) : Cal P w K mg base 5 "_law_pairs" ["_law_base", "_law_ends_here"] sp_l_pairs := okF (N := ["_law_base", "_law_ends_here", "_law_points", "_law_pairs_here", "_law_k"]) (ds := d_l_pairs) F sc__law_pairs (lenL sp2.len) (fun h => fn_run h (pure_l_pairs rfl)) fun f cdv A outer s H E hr tk po =>
  (pds_cons (pds_setLc (j := 4) (i := 2) rfl sc__law_pairs.nd rfl rfl (sw_true rfl rfl rfl (by decide +kernel)) (pd_var 1) (blkOk_by (N := ["_law_base", "_law_ends_here", "_law_points", "_law_pairs_here", "_law_k"]) (sc := defScope s__law_pairs) (own := [("_law_k", 4)]) (by decide +kernel)) (fun _ _ _ _ _ => pg_name (i := 4) sc__law_pairs.nd rfl (by first | exact .inl rfl | exact .inr rfl)) (fun _ _ _ _ _ => (pd_callC c__law_step takes0 (hr.mono (by decide)) (by rfl) (pda_cons (pd_var 0) (pda_cons (pd_var 4) pda_nil)))))
  (pds_cons (pds_set (i := 3) sc__law_pairs.nd rfl (.inl rfl) (pd_lstM pda_nil))
  (pds_cons (pds_forR3 po rfl (by rfl) m_range (pda_cons pd_int (pda_cons (pd_len (by rfl) m_len (pd_var 2)) (pda_cons pd_int pda_nil))) (pdg_name (i := 4) sc__law_pairs.nd rfl (.inl rfl)) (pds_one (pds_expr (pd_app (pd_var 3) (pd_tup (pda_cons (pd_ix (pd_var 2) (pd_var 4) (fun _ _ => rfl)) (pda_cons (pd_ix (pd_var 2) (pd_add (pd_var 4) pd_int) (fun _ _ => rfl)) pda_nil)))))))
  (pds_one (pds_ret (pd_tuple (by rfl) m_tuple (pd_var 3)))))))
theorem ok__law_whole (F : FT K mg "_law_whole" s__law_whole ["_law_number"]) (m_bool : mg "bool" = none) (m_int : mg "int" = none) (m_isinstance : mg "isinstance" = none) : Cal P w K mg base 1 "_law_whole" ["_law_number"] sp_l_whole := okF (N := ["_law_number"]) (ds := d_l_whole) F sc__law_whole (lenL sp1.len) (fun h => fn_run0 h (pure_l_whole rfl)) fun f cdv A outer s H E hr tk po =>
  (pds_one (pds_ret (pd_and (pd_isi (ty := "int") (by rfl) m_isinstance (pd_var 0) (by rfl) m_int (by decide +kernel)) (pd_one (pd_not (pd_isi (ty := "bool") (by rfl) m_isinstance (pd_var 0) (by rfl) m_bool (by decide +kernel)))))))
theorem ok__law_wholes (F : FT K mg "_law_wholes" s__law_wholes ["_law_found", "_law_many"]) (c__law_whole : Cal P w K mg base 1 "_law_whole" ["_law_number"] sp_l_whole) (m_all : mg "all" = none) (m_isinstance : mg "isinstance" = none) (m_len : mg "len" = none) (m_tuple : mg "tuple" = none) : Cal P w K mg base 2 "_law_wholes" ["_law_found", "_law_many"] sp_l_wholes := okF (N := ["_law_found", "_law_many", "_law_number"]) (ds := d_l_wholes) F sc__law_wholes (lenL sp2.len) (fun h => fn_run0 h (pure_l_wholes rfl)) fun f cdv A outer s H E hr tk po =>
  (pds_cons (pds_if (PW.pt (pdw_or (pdt_not (pdt_val (pd_isi (ty := "tuple") (by rfl) m_isinstance (pd_var 0) (by rfl) m_tuple (by decide +kernel)))) (pdw_or1 (pdt_ne hr.units (pd_len (by rfl) m_len (pd_var 0)) (pd_var 1))))) (pds_one (pds_ret pd_bl)) pds_nil)
  (pds_one (pds_ret (pd_all rfl (by rfl) m_all (pd_lc (j := 2) rfl sc__law_wholes.nd (pd_var 0) (blkOk_by (N := ["_law_found", "_law_many", "_law_number"]) (sc := defScope s__law_wholes) (own := [("_law_number", 2)]) (by decide +kernel)) (fun _ _ _ _ _ => pg_name (i := 2) sc__law_wholes.nd rfl (by first | exact .inl rfl | exact .inr rfl)) (fun _ _ _ _ _ => (pd_callC c__law_whole takes0 (hr.mono (by decide)) (by rfl) (pda_cons (pd_var 2) pda_nil))))))))
theorem ok__law_is_row (F : FT K mg "_law_is_row" s__law_is_row ["_law_found"]) (c__law_wholes : Cal P w K mg base 2 "_law_wholes" ["_law_found", "_law_many"] sp_l_wholes) (m_isinstance : mg "isinstance" = none) (m_len : mg "len" = none) (m_tuple : mg "tuple" = none) : Cal P w K mg base 3 "_law_is_row" ["_law_found"] sp_l_is_row := okF (N := ["_law_found", "_law_pair"]) (ds := d_l_is_row) F sc__law_is_row (lenL sp1.len) (fun h => fn_run0 h (pure_l_is_row rfl)) fun f cdv A outer s H E hr tk po =>
  (pds_cons (pds_if (pdt_not (pdt_val (pd_isi (ty := "tuple") (by rfl) m_isinstance (pd_var 0) (by rfl) m_tuple (by decide +kernel)))) (pds_one (pds_ret pd_bl)) pds_nil)
  (pds_cons (pds_for po rfl (pd_var 0) (pdg_name (i := 1) sc__law_is_row.nd rfl (.inl rfl)) (pds_cons (pds_if (PW.pt (pdw_or (pdt_not (pdt_val (pd_isi (ty := "tuple") (by rfl) m_isinstance (pd_var 1) (by rfl) m_tuple (by decide +kernel)))) (pdw_or1 (pdt_ne hr.units (pd_len (by rfl) m_len (pd_var 1)) pd_int)))) (pds_one (pds_ret pd_bl)) pds_nil)
  (pds_one (pds_if (PW.pt (pdw_or (pdt_not (pdt_val (pd_callC c__law_wholes tk (hr.mono (by decide)) (by rfl) (pda_cons (pd_ix (pd_var 1) pd_int (fun _ _ => rfl)) (pda_cons pd_int pda_nil))))) (pdw_or1 (pdt_not (pdt_val (pd_callC c__law_wholes tk (hr.mono (by decide)) (by rfl) (pda_cons (pd_ix (pd_var 1) pd_int (fun _ _ => rfl)) (pda_cons pd_int pda_nil)))))))) (pds_one (pds_ret pd_bl)) pds_nil))))
  (pds_one (pds_ret pd_bl))))
theorem ok__law_of_word (F : FT K mg "_law_of_word" s__law_of_word ["_law_ones", "_law_others", "_law_word"]) (m_len : mg "len" = none) (m_set : mg "set" = none) (m_sorted : mg "sorted" = none) : Cal P w K mg base 1 "_law_of_word" ["_law_ones", "_law_others", "_law_word"] sp_l_of_word := okF (N := ["_law_ones", "_law_others", "_law_word", "_law_made", "_law_truth", "_law_k", "_law_one", "_law_other", "_law_now", "_law_end"]) (ds := d_l_of_word) F sc__law_of_word (lenL sp3.len) (fun h => fn_run h (pure_l_of_word rfl)) fun f cdv A outer s H E hr tk po =>
  (pds_cons (pds_set (i := 3) sc__law_of_word.nd rfl (.inl rfl) (pd_lstM pda_nil))
  (pds_cons (pds_set (i := 4) sc__law_of_word.nd rfl (.inl rfl) pd_bl)
  (pds_cons (pds_for po rfl (pd_srtU (by rfl) (by rfl) m_sorted (by rfl) m_set (pd_var 0) (pd_var 1)) (pdg_name (i := 5) sc__law_of_word.nd rfl (.inr rfl)) (pds_cons (pds_set (i := 6) sc__law_of_word.nd rfl (.inl rfl) (pd_eq hr.units (pd_mod (pd_len (by rfl) m_len (pd_lcI (j := 9) rfl sc__law_of_word.nd (pd_var 0) (blkOk_by (N := ["_law_ones", "_law_others", "_law_word", "_law_made", "_law_truth", "_law_k", "_law_one", "_law_other", "_law_now", "_law_end"]) (sc := defScope s__law_of_word) (own := [("_law_end", 9)]) (by decide +kernel)) (fun _ _ _ _ _ => pg_name (i := 9) sc__law_of_word.nd rfl (by first | exact .inl rfl | exact .inr rfl)) (fun _ _ _ _ _ => (pdt_le (pd_var 9) (pd_var 5))) (fun _ _ _ _ _ => (pd_var 9)))) pd_int) pd_int))
  (pds_cons (pds_set (i := 7) sc__law_of_word.nd rfl (.inl rfl) (pd_eq hr.units (pd_mod (pd_len (by rfl) m_len (pd_lcI (j := 9) rfl sc__law_of_word.nd (pd_var 1) (blkOk_by (N := ["_law_ones", "_law_others", "_law_word", "_law_made", "_law_truth", "_law_k", "_law_one", "_law_other", "_law_now", "_law_end"]) (sc := defScope s__law_of_word) (own := [("_law_end", 9)]) (by decide +kernel)) (fun _ _ _ _ _ => pg_name (i := 9) sc__law_of_word.nd rfl (by first | exact .inl rfl | exact .inr rfl)) (fun _ _ _ _ _ => (pdt_le (pd_var 9) (pd_var 5))) (fun _ _ _ _ _ => (pd_var 9)))) pd_int) pd_int))
  (pds_cons (pds_set (i := 8) sc__law_of_word.nd rfl (.inl rfl) (pd_ix (pd_lst (pda_cons (pd_or (pd_var 6) (pd_one (pd_var 7))) (pda_cons (pd_and (pd_var 6) (pd_one (pd_var 7))) (pda_cons (pd_and (pd_var 6) (pd_one (pd_not (pd_var 7)))) (pda_cons (pd_ne hr.units (pd_var 6) (pd_var 7)) pda_nil))))) (pd_var 2) (fun _ _ => rfl)))
  (pds_cons (pds_if (pdt_ne hr.units (pd_var 8) (pd_var 4)) (pds_one (pds_expr (pd_app (pd_var 3) (pd_var 5)))) pds_nil)
  (pds_one (pds_set (i := 4) sc__law_of_word.nd rfl (.inl rfl) (pd_var 8))))))))
  (pds_one (pds_ret (pd_var 3))))))
theorem ok__law_words (F : FT K mg "_law_words" s__law_words ["_law_line_here", "_law_one", "_law_other"]) (c_row_common : Cal P w K mg base 4 "row_common" ["line", "one", "other"] sp_row_common) (c_row_joined : Cal P w K mg base 6 "row_joined" ["line", "one", "other"] sp_row_joined) (c_row_either : Cal P w K mg base 5 "row_either" ["line", "one", "other"] sp_row_either) (c_row_less : Cal P w K mg base 6 "row_less" ["line", "one", "other"] sp_row_less) : Cal P w K mg base 7 "_law_words" ["_law_line_here", "_law_one", "_law_other"] sp_l_words := okF (N := ["_law_line_here", "_law_one", "_law_other", "_law_found"]) (ds := d_l_words) F sc__law_words (lenL sp3.len) (fun h => fn_run0 h (pure_l_words rfl)) fun f cdv A outer s H E hr tk po =>
  (pds_cons (pds_set (i := 3) sc__law_words.nd rfl (.inl rfl) (pd_lst (pda_cons (pd_callC c_row_joined tk (hr.mono (by decide)) (by rfl) (pda_cons (pd_var 0) (pda_cons (pd_var 1) (pda_cons (pd_var 2) pda_nil)))) (pda_cons (pd_callC c_row_common tk (hr.mono (by decide)) (by rfl) (pda_cons (pd_var 0) (pda_cons (pd_var 1) (pda_cons (pd_var 2) pda_nil)))) pda_nil))))
  (pds_one (pds_ret (pd_add (pd_var 3) (pd_lst (pda_cons (pd_callC c_row_less tk (hr.mono (by decide)) (by rfl) (pda_cons (pd_var 0) (pda_cons (pd_var 1) (pda_cons (pd_var 2) pda_nil)))) (pda_cons (pd_callC c_row_either tk (hr.mono (by decide)) (by rfl) (pda_cons (pd_var 0) (pda_cons (pd_var 1) (pda_cons (pd_var 2) pda_nil)))) pda_nil)))))))
theorem ok_law {f : Addr} {fd : FuncData} (F : Fun K "law" "law" s_law f fd) (c__law_row : Cal P w K mg base 1 "_law_row" ["_law_script"] sp_l_row) (c__law_line_by : Cal P w K mg base 6 "_law_line_by" ["_law_row_here"] sp_l_line_by) (c__law_take : Cal P w K mg base 1 "_law_take" ["_law_row_here", "_law_many"] sp_l_take) (c__law_ends : Cal P w K mg base 1 "_law_ends" ["_law_spots_here"] sp_l_ends) (c__law_spots : Cal P w K mg base 2 "_law_spots" ["_law_row_here"] sp_l_spots) (c__law_words : Cal P w K mg base 7 "_law_words" ["_law_line_here", "_law_one", "_law_other"] sp_l_words) (c__law_pairs : Cal P w K mg base 5 "_law_pairs" ["_law_base", "_law_ends_here"] sp_l_pairs) (c__law_of_word : Cal P w K mg base 1 "_law_of_word" ["_law_ones", "_law_others", "_law_word"] sp_l_of_word) (c__law_is_row : Cal P w K mg base 3 "_law_is_row" ["_law_found"] sp_l_is_row) (m_len : mg "len" = none) (m_range : mg "range" = none) : FnOk P w K mg base (L2.CX P w) 8 f fd ["_law_script"] (lift K sp_law) := okL (N := ["_law_script", "_law_row_here", "_law_base", "_law_line_here", "_law_way", "_law_ones", "_law_others", "_law_one", "_law_other", "_law_found", "_law_word", "_law_due"]) (ds := d_law) F sc_law (lenL sp1.len) (fun h => fn_run0 h (pure_law rfl)) fun f cdv A outer s H E hr tk po =>
  (pds_cons (pds_set (i := 1) sc_law.nd rfl (.inl rfl) (pd_callC c__law_row tk (hr.mono (by decide)) (by rfl) (pda_cons (pd_var 0) pda_nil)))
  (pds_cons (pds_set (i := 2) sc_law.nd rfl (.inl rfl) (pd_callC c__law_line_by tk (hr.mono (by decide)) (by rfl) (pda_cons (pd_var 1) pda_nil)))
  (pds_cons (pds_set (i := 3) sc_law.nd rfl (.inl rfl) (pd_ix (pd_var 2) pd_int (fun _ _ => rfl)))
  (pds_cons (pds_set (i := 4) sc_law.nd rfl (.inl rfl) (pd_callC c__law_take tk (hr.mono (by decide)) (by rfl) (pda_cons (pd_var 1) (pda_cons pd_int pda_nil))))
  (pds_cons (pds_set (i := 5) sc_law.nd rfl (.inl rfl) (pd_callC c__law_ends tk (hr.mono (by decide)) (by rfl) (pda_cons (pd_callC c__law_spots tk (hr.mono (by decide)) (by rfl) (pda_cons (pd_var 1) pda_nil)) pda_nil)))
  (pds_cons (pds_set (i := 6) sc_law.nd rfl (.inl rfl) (pd_callC c__law_ends tk (hr.mono (by decide)) (by rfl) (pda_cons (pd_callC c__law_spots tk (hr.mono (by decide)) (by rfl) (pda_cons (pd_var 1) pda_nil)) pda_nil)))
  (pds_cons (pds_if (pdt_eq hr.units (pd_var 4) pd_int) (pds_one (pds_set (i := 6) sc_law.nd rfl (.inl rfl) (pd_var 5))) pds_nil)
  (pds_cons (pds_if (pdt_eq hr.units (pd_var 4) pd_int) (pds_one (pds_set (i := 6) sc_law.nd rfl (.inl rfl) (pd_sl (pd_var 5) pdo_none (pdo_some (pd_mul (pd_div (pd_len (by rfl) m_len (pd_var 5)) pd_int) pd_int))))) pds_nil)
  (pds_cons (pds_for po rfl (pd_lst (pda_cons (pd_tup (pda_cons (pd_var 5) (pda_cons (pd_var 6) pda_nil))) (pda_cons (pd_tup (pda_cons (pd_var 6) (pda_cons (pd_var 5) pda_nil))) (pda_cons (pd_tup (pda_cons (pd_var 5) (pda_cons (pd_var 5) pda_nil))) pda_nil)))) (pdg_tup rfl (pdgs_name (i := 7) sc_law.nd rfl (.inl rfl) (pdgs_name (i := 8) sc_law.nd rfl (.inl rfl) pdgs_nil))) (pds_cons (pds_set (i := 9) sc_law.nd rfl (.inl rfl) (pd_callC c__law_words tk (hr.mono (by decide)) (by rfl) (pda_cons (pd_var 3) (pda_cons (pd_callC c__law_pairs tk (hr.mono (by decide)) (by rfl) (pda_cons (pd_var 2) (pda_cons (pd_var 7) pda_nil))) (pda_cons (pd_callC c__law_pairs tk (hr.mono (by decide)) (by rfl) (pda_cons (pd_var 2) (pda_cons (pd_var 8) pda_nil))) pda_nil)))))
  (pds_one (pds_forR1 po rfl (by rfl) m_range (pda_cons pd_int pda_nil) (pdg_name (i := 10) sc_law.nd rfl (.inl rfl)) (pds_cons (pds_set (i := 11) sc_law.nd rfl (.inl rfl) (pd_callC c__law_pairs tk (hr.mono (by decide)) (by rfl) (pda_cons (pd_var 2) (pda_cons (pd_callC c__law_of_word tk (hr.mono (by decide)) (by rfl) (pda_cons (pd_var 7) (pda_cons (pd_var 8) (pda_cons (pd_var 10) pda_nil)))) pda_nil))))
  (pds_one (pds_if (PW.pt (pdw_or (pdt_not (pdt_val (pd_callC c__law_is_row tk (hr.mono (by decide)) (by rfl) (pda_cons (pd_ix (pd_var 9) (pd_var 10) (fun _ _ => rfl)) pda_nil)))) (pdw_or1 (pdt_ne hr.units (pd_ix (pd_var 9) (pd_var 10) (fun _ _ => rfl)) (pd_var 11))))) (pds_one (pds_ret pd_bl)) pds_nil)))))))
  (pds_one (pds_ret pd_bl)))))))))))
end
theorem all_mk {l : PySem.W.OpenLaw} {w : World} {K : PySem.W.Frag} {h : Heap} {mg : Str → Option Value} {fa f0 f1 f2 f3 f4 f5 f6 f7 f8 f9 f10 f11 f12 f13 f14 f15 f16 f17 f18 f19 f20 f21 f22 f23 f24 f25 f26 f27 f28 f29 f30 f31 f32 f33 f34 : Addr} (X : K.In h) (G : h.Ns mainGlobals mg) (hfa : mg "law" = some (.ref fa))
    {od0 an0 od1 an1 od2 an2 od3 an3 od4 an4 od5 an5 od6 an6 od7 an7 od8 an8 od9 an9 od10 an10 od11 an11 od12 an12 od13 an13 od14 an14 od15 an15 od16 an16 od17 an17 od18 an18 od19 an19 od20 an20 od21 an21 od22 an22 od23 an23 od24 an24 od25 an25 od26 an26 od27 an27 od28 an28 od29 an29 od30 an30 od31 an31 od32 an32 od33 an33 od34 an34 : Option Addr} {sl0 sl1 sl2 sl3 sl4 sl5 sl6 sl7 sl8 sl9 sl10 sl11 sl12 sl13 sl14 sl15 sl16 sl17 sl18 sl19 sl20 sl21 sl22 sl23 sl24 sl25 sl26 sl27 sl28 sl29 sl30 sl31 sl32 sl33 sl34 : Array (Option Value)} {oc0 kV0 dc0 pm0 cd0 ct0 oc1 kV1 dc1 pm1 cd1 ct1 oc2 kV2 dc2 pm2 cd2 ct2 oc3 kV3 dc3 pm3 cd3 ct3 oc4 kV4 dc4 pm4 cd4 ct4 oc5 kV5 dc5 pm5 cd5 ct5 oc6 kV6 dc6 pm6 cd6 ct6 oc7 kV7 dc7 pm7 cd7 ct7 oc8 kV8 dc8 pm8 cd8 ct8 oc9 kV9 dc9 pm9 cd9 ct9 oc10 kV10 dc10 pm10 cd10 ct10 oc11 kV11 dc11 pm11 cd11 ct11 oc12 kV12 dc12 pm12 cd12 ct12 oc13 kV13 dc13 pm13 cd13 ct13 oc14 kV14 dc14 pm14 cd14 ct14 oc15 kV15 dc15 pm15 cd15 ct15 oc16 kV16 dc16 pm16 cd16 ct16 oc17 kV17 dc17 pm17 cd17 ct17 oc18 kV18 dc18 pm18 cd18 ct18 oc19 kV19 dc19 pm19 cd19 ct19 oc20 kV20 dc20 pm20 cd20 ct20 oc21 kV21 dc21 pm21 cd21 ct21 oc22 kV22 dc22 pm22 cd22 ct22 oc23 kV23 dc23 pm23 cd23 ct23 oc24 kV24 dc24 pm24 cd24 ct24 oc25 kV25 dc25 pm25 cd25 ct25 oc26 kV26 dc26 pm26 cd26 ct26 oc27 kV27 dc27 pm27 cd27 ct27 oc28 kV28 dc28 pm28 cd28 ct28 oc29 kV29 dc29 pm29 cd29 ct29 oc30 kV30 dc30 pm30 cd30 ct30 oc31 kV31 dc31 pm31 cd31 ct31 oc32 kV32 dc32 pm32 cd32 ct32 oc33 kV33 dc33 pm33 cd33 ct33 oc34 kV34 dc34 pm34 cd34 ct34 : Value}
    (a0 : PySem.W.nsIn K mainGlobals "dot" = some (some (.ref f0))) (l0 : K.lookup f0 = some ⟨oc0, od0, .func (PySem.W.fnOf "dot" "dot" (defArgs s_dot) (defBody s_dot) (defScope s_dot) .none kV0 dc0 pm0 an0 cd0 ct0), sl0⟩) (c0 : PySem.W.codeIn K cd0 "dot" = true) (k0 : PySem.W.keepIn K (.ref f0) = true)
    (a1 : PySem.W.nsIn K mainGlobals "sign_of" = some (some (.ref f1))) (l1 : K.lookup f1 = some ⟨oc1, od1, .func (PySem.W.fnOf "sign_of" "sign_of" (defArgs s_sign_of) (defBody s_sign_of) (defScope s_sign_of) .none kV1 dc1 pm1 an1 cd1 ct1), sl1⟩) (c1 : PySem.W.codeIn K cd1 "sign_of" = true) (k1 : PySem.W.keepIn K (.ref f1) = true)
    (a2 : PySem.W.nsIn K mainGlobals "ahead" = some (some (.ref f2))) (l2 : K.lookup f2 = some ⟨oc2, od2, .func (PySem.W.fnOf "ahead" "ahead" (defArgs s_ahead) (defBody s_ahead) (defScope s_ahead) .none kV2 dc2 pm2 an2 cd2 ct2), sl2⟩) (c2 : PySem.W.codeIn K cd2 "ahead" = true) (k2 : PySem.W.keepIn K (.ref f2) = true)
    (a3 : PySem.W.nsIn K mainGlobals "put_end" = some (some (.ref f3))) (l3 : K.lookup f3 = some ⟨oc3, od3, .func (PySem.W.fnOf "put_end" "put_end" (defArgs s_put_end) (defBody s_put_end) (defScope s_put_end) .none kV3 dc3 pm3 an3 cd3 ct3), sl3⟩) (c3 : PySem.W.codeIn K cd3 "put_end" = true) (k3 : PySem.W.keepIn K (.ref f3) = true)
    (a4 : PySem.W.nsIn K mainGlobals "either_ends" = some (some (.ref f4))) (l4 : K.lookup f4 = some ⟨oc4, od4, .func (PySem.W.fnOf "either_ends" "either_ends" (defArgs s_either_ends) (defBody s_either_ends) (defScope s_either_ends) .none kV4 dc4 pm4 an4 cd4 ct4), sl4⟩) (c4 : PySem.W.codeIn K cd4 "either_ends" = true) (k4 : PySem.W.keepIn K (.ref f4) = true)
    (a5 : PySem.W.nsIn K mainGlobals "common_ends" = some (some (.ref f5))) (l5 : K.lookup f5 = some ⟨oc5, od5, .func (PySem.W.fnOf "common_ends" "common_ends" (defArgs s_common_ends) (defBody s_common_ends) (defScope s_common_ends) .none kV5 dc5 pm5 an5 cd5 ct5), sl5⟩) (c5 : PySem.W.codeIn K cd5 "common_ends" = true) (k5 : PySem.W.keepIn K (.ref f5) = true)
    (a6 : PySem.W.nsIn K mainGlobals "ends_of" = some (some (.ref f6))) (l6 : K.lookup f6 = some ⟨oc6, od6, .func (PySem.W.fnOf "ends_of" "ends_of" (defArgs s_ends_of) (defBody s_ends_of) (defScope s_ends_of) .none kV6 dc6 pm6 an6 cd6 ct6), sl6⟩) (c6 : PySem.W.codeIn K cd6 "ends_of" = true) (k6 : PySem.W.keepIn K (.ref f6) = true)
    (a7 : PySem.W.nsIn K mainGlobals "row_from" = some (some (.ref f7))) (l7 : K.lookup f7 = some ⟨oc7, od7, .func (PySem.W.fnOf "row_from" "row_from" (defArgs s_row_from) (defBody s_row_from) (defScope s_row_from) .none kV7 dc7 pm7 an7 cd7 ct7), sl7⟩) (c7 : PySem.W.codeIn K cd7 "row_from" = true) (k7 : PySem.W.keepIn K (.ref f7) = true)
    (a8 : PySem.W.nsIn K mainGlobals "row_either" = some (some (.ref f8))) (l8 : K.lookup f8 = some ⟨oc8, od8, .func (PySem.W.fnOf "row_either" "row_either" (defArgs s_row_either) (defBody s_row_either) (defScope s_row_either) .none kV8 dc8 pm8 an8 cd8 ct8), sl8⟩) (c8 : PySem.W.codeIn K cd8 "row_either" = true) (k8 : PySem.W.keepIn K (.ref f8) = true)
    (a9 : PySem.W.nsIn K mainGlobals "row_common" = some (some (.ref f9))) (l9 : K.lookup f9 = some ⟨oc9, od9, .func (PySem.W.fnOf "row_common" "row_common" (defArgs s_row_common) (defBody s_row_common) (defScope s_row_common) .none kV9 dc9 pm9 an9 cd9 ct9), sl9⟩) (c9 : PySem.W.codeIn K cd9 "row_common" = true) (k9 : PySem.W.keepIn K (.ref f9) = true)
    (a10 : PySem.W.nsIn K mainGlobals "row_less" = some (some (.ref f10))) (l10 : K.lookup f10 = some ⟨oc10, od10, .func (PySem.W.fnOf "row_less" "row_less" (defArgs s_row_less) (defBody s_row_less) (defScope s_row_less) .none kV10 dc10 pm10 an10 cd10 ct10), sl10⟩) (c10 : PySem.W.codeIn K cd10 "row_less" = true) (k10 : PySem.W.keepIn K (.ref f10) = true)
    (a11 : PySem.W.nsIn K mainGlobals "row_joined" = some (some (.ref f11))) (l11 : K.lookup f11 = some ⟨oc11, od11, .func (PySem.W.fnOf "row_joined" "row_joined" (defArgs s_row_joined) (defBody s_row_joined) (defScope s_row_joined) .none kV11 dc11 pm11 an11 cd11 ct11), sl11⟩) (c11 : PySem.W.codeIn K cd11 "row_joined" = true) (k11 : PySem.W.keepIn K (.ref f11) = true)
    (a12 : PySem.W.nsIn K mainGlobals "_law_row" = some (some (.ref f12))) (l12 : K.lookup f12 = some ⟨oc12, od12, .func (PySem.W.fnOf "_law_row" "_law_row" (defArgs s__law_row) (defBody s__law_row) (defScope s__law_row) .none kV12 dc12 pm12 an12 cd12 ct12), sl12⟩) (c12 : PySem.W.codeIn K cd12 "_law_row" = true) (k12 : PySem.W.keepIn K (.ref f12) = true)
    (a13 : PySem.W.nsIn K mainGlobals "_law_take" = some (some (.ref f13))) (l13 : K.lookup f13 = some ⟨oc13, od13, .func (PySem.W.fnOf "_law_take" "_law_take" (defArgs s__law_take) (defBody s__law_take) (defScope s__law_take) .none kV13 dc13 pm13 an13 cd13 ct13), sl13⟩) (c13 : PySem.W.codeIn K cd13 "_law_take" = true) (k13 : PySem.W.keepIn K (.ref f13) = true)
    (a14 : PySem.W.nsIn K mainGlobals "_law_gcd" = some (some (.ref f14))) (l14 : K.lookup f14 = some ⟨oc14, od14, .func (PySem.W.fnOf "_law_gcd" "_law_gcd" (defArgs s__law_gcd) (defBody s__law_gcd) (defScope s__law_gcd) .none kV14 dc14 pm14 an14 cd14 ct14), sl14⟩) (c14 : PySem.W.codeIn K cd14 "_law_gcd" = true) (k14 : PySem.W.keepIn K (.ref f14) = true)
    (a15 : PySem.W.nsIn K mainGlobals "_law_lowest" = some (some (.ref f15))) (l15 : K.lookup f15 = some ⟨oc15, od15, .func (PySem.W.fnOf "_law_lowest" "_law_lowest" (defArgs s__law_lowest) (defBody s__law_lowest) (defScope s__law_lowest) .none kV15 dc15 pm15 an15 cd15 ct15), sl15⟩) (c15 : PySem.W.codeIn K cd15 "_law_lowest" = true) (k15 : PySem.W.keepIn K (.ref f15) = true)
    (a16 : PySem.W.nsIn K mainGlobals "_law_point" = some (some (.ref f16))) (l16 : K.lookup f16 = some ⟨oc16, od16, .func (PySem.W.fnOf "_law_point" "_law_point" (defArgs s__law_point) (defBody s__law_point) (defScope s__law_point) .none kV16 dc16 pm16 an16 cd16 ct16), sl16⟩) (c16 : PySem.W.codeIn K cd16 "_law_point" = true) (k16 : PySem.W.keepIn K (.ref f16) = true)
    (a17 : PySem.W.nsIn K mainGlobals "_law_free" = some (some (.ref f17))) (l17 : K.lookup f17 = some ⟨oc17, od17, .func (PySem.W.fnOf "_law_free" "_law_free" (defArgs s__law_free) (defBody s__law_free) (defScope s__law_free) .none kV17 dc17 pm17 an17 cd17 ct17), sl17⟩) (c17 : PySem.W.codeIn K cd17 "_law_free" = true) (k17 : PySem.W.keepIn K (.ref f17) = true)
    (a18 : PySem.W.nsIn K mainGlobals "_law_two" = some (some (.ref f18))) (l18 : K.lookup f18 = some ⟨oc18, od18, .func (PySem.W.fnOf "_law_two" "_law_two" (defArgs s__law_two) (defBody s__law_two) (defScope s__law_two) .none kV18 dc18 pm18 an18 cd18 ct18), sl18⟩) (c18 : PySem.W.codeIn K cd18 "_law_two" = true) (k18 : PySem.W.keepIn K (.ref f18) = true)
    (a19 : PySem.W.nsIn K mainGlobals "_law_arrow" = some (some (.ref f19))) (l19 : K.lookup f19 = some ⟨oc19, od19, .func (PySem.W.fnOf "_law_arrow" "_law_arrow" (defArgs s__law_arrow) (defBody s__law_arrow) (defScope s__law_arrow) .none kV19 dc19 pm19 an19 cd19 ct19), sl19⟩) (c19 : PySem.W.codeIn K cd19 "_law_arrow" = true) (k19 : PySem.W.keepIn K (.ref f19) = true)
    (a20 : PySem.W.nsIn K mainGlobals "_law_cross" = some (some (.ref f20))) (l20 : K.lookup f20 = some ⟨oc20, od20, .func (PySem.W.fnOf "_law_cross" "_law_cross" (defArgs s__law_cross) (defBody s__law_cross) (defScope s__law_cross) .none kV20 dc20 pm20 an20 cd20 ct20), sl20⟩) (c20 : PySem.W.codeIn K cd20 "_law_cross" = true) (k20 : PySem.W.keepIn K (.ref f20) = true)
    (a21 : PySem.W.nsIn K mainGlobals "_law_line" = some (some (.ref f21))) (l21 : K.lookup f21 = some ⟨oc21, od21, .func (PySem.W.fnOf "_law_line" "_law_line" (defArgs s__law_line) (defBody s__law_line) (defScope s__law_line) .none kV21 dc21 pm21 an21 cd21 ct21), sl21⟩) (c21 : PySem.W.codeIn K cd21 "_law_line" = true) (k21 : PySem.W.keepIn K (.ref f21) = true)
    (a22 : PySem.W.nsIn K mainGlobals "_law_dot" = some (some (.ref f22))) (l22 : K.lookup f22 = some ⟨oc22, od22, .func (PySem.W.fnOf "_law_dot" "_law_dot" (defArgs s__law_dot) (defBody s__law_dot) (defScope s__law_dot) .none kV22 dc22 pm22 an22 cd22 ct22), sl22⟩) (c22 : PySem.W.codeIn K cd22 "_law_dot" = true) (k22 : PySem.W.keepIn K (.ref f22) = true)
    (a23 : PySem.W.nsIn K mainGlobals "_law_line_by" = some (some (.ref f23))) (l23 : K.lookup f23 = some ⟨oc23, od23, .func (PySem.W.fnOf "_law_line_by" "_law_line_by" (defArgs s__law_line_by) (defBody s__law_line_by) (defScope s__law_line_by) .none kV23 dc23 pm23 an23 cd23 ct23), sl23⟩) (c23 : PySem.W.codeIn K cd23 "_law_line_by" = true) (k23 : PySem.W.keepIn K (.ref f23) = true)
    (a24 : PySem.W.nsIn K mainGlobals "_law_ends" = some (some (.ref f24))) (l24 : K.lookup f24 = some ⟨oc24, od24, .func (PySem.W.fnOf "_law_ends" "_law_ends" (defArgs s__law_ends) (defBody s__law_ends) (defScope s__law_ends) .none kV24 dc24 pm24 an24 cd24 ct24), sl24⟩) (c24 : PySem.W.codeIn K cd24 "_law_ends" = true) (k24 : PySem.W.keepIn K (.ref f24) = true)
    (a25 : PySem.W.nsIn K mainGlobals "_law_spots" = some (some (.ref f25))) (l25 : K.lookup f25 = some ⟨oc25, od25, .func (PySem.W.fnOf "_law_spots" "_law_spots" (defArgs s__law_spots) (defBody s__law_spots) (defScope s__law_spots) .none kV25 dc25 pm25 an25 cd25 ct25), sl25⟩) (c25 : PySem.W.codeIn K cd25 "_law_spots" = true) (k25 : PySem.W.keepIn K (.ref f25) = true)
    (a26 : PySem.W.nsIn K mainGlobals "_law_along" = some (some (.ref f26))) (l26 : K.lookup f26 = some ⟨oc26, od26, .func (PySem.W.fnOf "_law_along" "_law_along" (defArgs s__law_along) (defBody s__law_along) (defScope s__law_along) .none kV26 dc26 pm26 an26 cd26 ct26), sl26⟩) (c26 : PySem.W.codeIn K cd26 "_law_along" = true) (k26 : PySem.W.keepIn K (.ref f26) = true)
    (a27 : PySem.W.nsIn K mainGlobals "_law_step" = some (some (.ref f27))) (l27 : K.lookup f27 = some ⟨oc27, od27, .func (PySem.W.fnOf "_law_step" "_law_step" (defArgs s__law_step) (defBody s__law_step) (defScope s__law_step) .none kV27 dc27 pm27 an27 cd27 ct27), sl27⟩) (c27 : PySem.W.codeIn K cd27 "_law_step" = true) (k27 : PySem.W.keepIn K (.ref f27) = true)
    (a28 : PySem.W.nsIn K mainGlobals "_law_pairs" = some (some (.ref f28))) (l28 : K.lookup f28 = some ⟨oc28, od28, .func (PySem.W.fnOf "_law_pairs" "_law_pairs" (defArgs s__law_pairs) (defBody s__law_pairs) (defScope s__law_pairs) .none kV28 dc28 pm28 an28 cd28 ct28), sl28⟩) (c28 : PySem.W.codeIn K cd28 "_law_pairs" = true) (k28 : PySem.W.keepIn K (.ref f28) = true)
    (a29 : PySem.W.nsIn K mainGlobals "_law_whole" = some (some (.ref f29))) (l29 : K.lookup f29 = some ⟨oc29, od29, .func (PySem.W.fnOf "_law_whole" "_law_whole" (defArgs s__law_whole) (defBody s__law_whole) (defScope s__law_whole) .none kV29 dc29 pm29 an29 cd29 ct29), sl29⟩) (c29 : PySem.W.codeIn K cd29 "_law_whole" = true) (k29 : PySem.W.keepIn K (.ref f29) = true)
    (a30 : PySem.W.nsIn K mainGlobals "_law_wholes" = some (some (.ref f30))) (l30 : K.lookup f30 = some ⟨oc30, od30, .func (PySem.W.fnOf "_law_wholes" "_law_wholes" (defArgs s__law_wholes) (defBody s__law_wholes) (defScope s__law_wholes) .none kV30 dc30 pm30 an30 cd30 ct30), sl30⟩) (c30 : PySem.W.codeIn K cd30 "_law_wholes" = true) (k30 : PySem.W.keepIn K (.ref f30) = true)
    (a31 : PySem.W.nsIn K mainGlobals "_law_is_row" = some (some (.ref f31))) (l31 : K.lookup f31 = some ⟨oc31, od31, .func (PySem.W.fnOf "_law_is_row" "_law_is_row" (defArgs s__law_is_row) (defBody s__law_is_row) (defScope s__law_is_row) .none kV31 dc31 pm31 an31 cd31 ct31), sl31⟩) (c31 : PySem.W.codeIn K cd31 "_law_is_row" = true) (k31 : PySem.W.keepIn K (.ref f31) = true)
    (a32 : PySem.W.nsIn K mainGlobals "_law_of_word" = some (some (.ref f32))) (l32 : K.lookup f32 = some ⟨oc32, od32, .func (PySem.W.fnOf "_law_of_word" "_law_of_word" (defArgs s__law_of_word) (defBody s__law_of_word) (defScope s__law_of_word) .none kV32 dc32 pm32 an32 cd32 ct32), sl32⟩) (c32 : PySem.W.codeIn K cd32 "_law_of_word" = true) (k32 : PySem.W.keepIn K (.ref f32) = true)
    (a33 : PySem.W.nsIn K mainGlobals "_law_words" = some (some (.ref f33))) (l33 : K.lookup f33 = some ⟨oc33, od33, .func (PySem.W.fnOf "_law_words" "_law_words" (defArgs s__law_words) (defBody s__law_words) (defScope s__law_words) .none kV33 dc33 pm33 an33 cd33 ct33), sl33⟩) (c33 : PySem.W.codeIn K cd33 "_law_words" = true) (k33 : PySem.W.keepIn K (.ref f33) = true)
    (a34 : PySem.W.nsIn K mainGlobals "law" = some (some (.ref f34))) (l34 : K.lookup f34 = some ⟨oc34, od34, .func (PySem.W.fnOf "law" "law" (defArgs s_law) (defBody s_law) (defScope s_law) .none kV34 dc34 pm34 an34 cd34 ct34), sl34⟩) (c34 : PySem.W.codeIn K cd34 "law" = true) (k34 : PySem.W.keepIn K (.ref f34) = true)
    (z_abs : PySem.W.nsIn K mainGlobals "abs" = some none)
    (z_all : PySem.W.nsIn K mainGlobals "all" = some none)
    (z_bool : PySem.W.nsIn K mainGlobals "bool" = some none)
    (z_enumerate : PySem.W.nsIn K mainGlobals "enumerate" = some none)
    (z_int : PySem.W.nsIn K mainGlobals "int" = some none)
    (z_isinstance : PySem.W.nsIn K mainGlobals "isinstance" = some none)
    (z_len : PySem.W.nsIn K mainGlobals "len" = some none)
    (z_list : PySem.W.nsIn K mainGlobals "list" = some none)
    (z_range : PySem.W.nsIn K mainGlobals "range" = some none)
    (z_set : PySem.W.nsIn K mainGlobals "set" = some none)
    (z_sorted : PySem.W.nsIn K mainGlobals "sorted" = some none)
    (z_tuple : PySem.W.nsIn K mainGlobals "tuple" = some none)
    : ∃ fd : FuncData, (∀ (s : Shared) (v : Value), BindsTo s fd ⟨[v], []⟩ [("_law_script", v)]) ∧ ∀ base : Heap, K.In base → base.Ns mainGlobals mg → FnOk l.prog w K mg base (L2.CX l.prog w) 8 fa fd ["_law_script"] (lift K sp_law) := by
  have e := hfa.symm.trans (PySem.W.mg_of X G a34)
  cases e
  have F0 := fun_mk (st := s_dot) l0 c0 k0
  have T0 : FT K mg "dot" s_dot ["u", "v"] := ⟨_, _, F0, PySem.W.mg_of X G a0, F0.binds (ps := ["u", "v"]) fun _ _ _ _ _ _ us hl => match us, hl with | [_, _], _ => rfl⟩
  have F1 := fun_mk (st := s_sign_of) l1 c1 k1
  have T1 : FT K mg "sign_of" s_sign_of ["number"] := ⟨_, _, F1, PySem.W.mg_of X G a1, F1.binds (ps := ["number"]) fun _ _ _ _ _ _ us hl => match us, hl with | [_], _ => rfl⟩
  have F2 := fun_mk (st := s_ahead) l2 c2 k2
  have T2 : FT K mg "ahead" s_ahead ["line", "p", "q"] := ⟨_, _, F2, PySem.W.mg_of X G a2, F2.binds (ps := ["line", "p", "q"]) fun _ _ _ _ _ _ us hl => match us, hl with | [_, _, _], _ => rfl⟩
  have F3 := fun_mk (st := s_put_end) l3 c3 k3
  have T3 : FT K mg "put_end" s_put_end ["line", "ends", "p"] := ⟨_, _, F3, PySem.W.mg_of X G a3, F3.binds (ps := ["line", "ends", "p"]) fun _ _ _ _ _ _ us hl => match us, hl with | [_, _, _], _ => rfl⟩
  have F4 := fun_mk (st := s_either_ends) l4 c4 k4
  have T4 : FT K mg "either_ends" s_either_ends ["line", "one", "other"] := ⟨_, _, F4, PySem.W.mg_of X G a4, F4.binds (ps := ["line", "one", "other"]) fun _ _ _ _ _ _ us hl => match us, hl with | [_, _, _], _ => rfl⟩
  have F5 := fun_mk (st := s_common_ends) l5 c5 k5
  have T5 : FT K mg "common_ends" s_common_ends ["line", "one", "other"] := ⟨_, _, F5, PySem.W.mg_of X G a5, F5.binds (ps := ["line", "one", "other"]) fun _ _ _ _ _ _ us hl => match us, hl with | [_, _, _], _ => rfl⟩
  have F6 := fun_mk (st := s_ends_of) l6 c6 k6
  have T6 : FT K mg "ends_of" s_ends_of ["row"] := ⟨_, _, F6, PySem.W.mg_of X G a6, F6.binds (ps := ["row"]) fun _ _ _ _ _ _ us hl => match us, hl with | [_], _ => rfl⟩
  have F7 := fun_mk (st := s_row_from) l7 c7 k7
  have T7 : FT K mg "row_from" s_row_from ["ends"] := ⟨_, _, F7, PySem.W.mg_of X G a7, F7.binds (ps := ["ends"]) fun _ _ _ _ _ _ us hl => match us, hl with | [_], _ => rfl⟩
  have F8 := fun_mk (st := s_row_either) l8 c8 k8
  have T8 : FT K mg "row_either" s_row_either ["line", "one", "other"] := ⟨_, _, F8, PySem.W.mg_of X G a8, F8.binds (ps := ["line", "one", "other"]) fun _ _ _ _ _ _ us hl => match us, hl with | [_, _, _], _ => rfl⟩
  have F9 := fun_mk (st := s_row_common) l9 c9 k9
  have T9 : FT K mg "row_common" s_row_common ["line", "one", "other"] := ⟨_, _, F9, PySem.W.mg_of X G a9, F9.binds (ps := ["line", "one", "other"]) fun _ _ _ _ _ _ us hl => match us, hl with | [_, _, _], _ => rfl⟩
  have F10 := fun_mk (st := s_row_less) l10 c10 k10
  have T10 : FT K mg "row_less" s_row_less ["line", "one", "other"] := ⟨_, _, F10, PySem.W.mg_of X G a10, F10.binds (ps := ["line", "one", "other"]) fun _ _ _ _ _ _ us hl => match us, hl with | [_, _, _], _ => rfl⟩
  have F11 := fun_mk (st := s_row_joined) l11 c11 k11
  have T11 : FT K mg "row_joined" s_row_joined ["line", "one", "other"] := ⟨_, _, F11, PySem.W.mg_of X G a11, F11.binds (ps := ["line", "one", "other"]) fun _ _ _ _ _ _ us hl => match us, hl with | [_, _, _], _ => rfl⟩
  have F12 := fun_mk (st := s__law_row) l12 c12 k12
  have T12 : FT K mg "_law_row" s__law_row ["_law_script"] := ⟨_, _, F12, PySem.W.mg_of X G a12, F12.binds (ps := ["_law_script"]) fun _ _ _ _ _ _ us hl => match us, hl with | [_], _ => rfl⟩
  have F13 := fun_mk (st := s__law_take) l13 c13 k13
  have T13 : FT K mg "_law_take" s__law_take ["_law_row_here", "_law_many"] := ⟨_, _, F13, PySem.W.mg_of X G a13, F13.binds (ps := ["_law_row_here", "_law_many"]) fun _ _ _ _ _ _ us hl => match us, hl with | [_, _], _ => rfl⟩
  have F14 := fun_mk (st := s__law_gcd) l14 c14 k14
  have T14 : FT K mg "_law_gcd" s__law_gcd ["_law_one", "_law_other"] := ⟨_, _, F14, PySem.W.mg_of X G a14, F14.binds (ps := ["_law_one", "_law_other"]) fun _ _ _ _ _ _ us hl => match us, hl with | [_, _], _ => rfl⟩
  have F15 := fun_mk (st := s__law_lowest) l15 c15 k15
  have T15 : FT K mg "_law_lowest" s__law_lowest ["_law_numbers"] := ⟨_, _, F15, PySem.W.mg_of X G a15, F15.binds (ps := ["_law_numbers"]) fun _ _ _ _ _ _ us hl => match us, hl with | [_], _ => rfl⟩
  have F16 := fun_mk (st := s__law_point) l16 c16 k16
  have T16 : FT K mg "_law_point" s__law_point ["_law_row_here", "_law_size", "_law_bottom"] := ⟨_, _, F16, PySem.W.mg_of X G a16, F16.binds (ps := ["_law_row_here", "_law_size", "_law_bottom"]) fun _ _ _ _ _ _ us hl => match us, hl with | [_, _, _], _ => rfl⟩
  have F17 := fun_mk (st := s__law_free) l17 c17 k17
  have T17 : FT K mg "_law_free" s__law_free ["_law_row_here"] := ⟨_, _, F17, PySem.W.mg_of X G a17, F17.binds (ps := ["_law_row_here"]) fun _ _ _ _ _ _ us hl => match us, hl with | [_], _ => rfl⟩
  have F18 := fun_mk (st := s__law_two) l18 c18 k18
  have T18 : FT K mg "_law_two" s__law_two ["_law_row_here"] := ⟨_, _, F18, PySem.W.mg_of X G a18, F18.binds (ps := ["_law_row_here"]) fun _ _ _ _ _ _ us hl => match us, hl with | [_], _ => rfl⟩
  have F19 := fun_mk (st := s__law_arrow) l19 c19 k19
  have T19 : FT K mg "_law_arrow" s__law_arrow ["_law_p", "_law_q"] := ⟨_, _, F19, PySem.W.mg_of X G a19, F19.binds (ps := ["_law_p", "_law_q"]) fun _ _ _ _ _ _ us hl => match us, hl with | [_, _], _ => rfl⟩
  have F20 := fun_mk (st := s__law_cross) l20 c20 k20
  have T20 : FT K mg "_law_cross" s__law_cross ["_law_u", "_law_v"] := ⟨_, _, F20, PySem.W.mg_of X G a20, F20.binds (ps := ["_law_u", "_law_v"]) fun _ _ _ _ _ _ us hl => match us, hl with | [_, _], _ => rfl⟩
  have F21 := fun_mk (st := s__law_line) l21 c21 k21
  have T21 : FT K mg "_law_line" s__law_line ["_law_p", "_law_q"] := ⟨_, _, F21, PySem.W.mg_of X G a21, F21.binds (ps := ["_law_p", "_law_q"]) fun _ _ _ _ _ _ us hl => match us, hl with | [_, _], _ => rfl⟩
  have F22 := fun_mk (st := s__law_dot) l22 c22 k22
  have T22 : FT K mg "_law_dot" s__law_dot ["_law_u", "_law_v"] := ⟨_, _, F22, PySem.W.mg_of X G a22, F22.binds (ps := ["_law_u", "_law_v"]) fun _ _ _ _ _ _ us hl => match us, hl with | [_, _], _ => rfl⟩
  have F23 := fun_mk (st := s__law_line_by) l23 c23 k23
  have T23 : FT K mg "_law_line_by" s__law_line_by ["_law_row_here"] := ⟨_, _, F23, PySem.W.mg_of X G a23, F23.binds (ps := ["_law_row_here"]) fun _ _ _ _ _ _ us hl => match us, hl with | [_], _ => rfl⟩
  have F24 := fun_mk (st := s__law_ends) l24 c24 k24
  have T24 : FT K mg "_law_ends" s__law_ends ["_law_spots_here"] := ⟨_, _, F24, PySem.W.mg_of X G a24, F24.binds (ps := ["_law_spots_here"]) fun _ _ _ _ _ _ us hl => match us, hl with | [_], _ => rfl⟩
  have F25 := fun_mk (st := s__law_spots) l25 c25 k25
  have T25 : FT K mg "_law_spots" s__law_spots ["_law_row_here"] := ⟨_, _, F25, PySem.W.mg_of X G a25, F25.binds (ps := ["_law_row_here"]) fun _ _ _ _ _ _ us hl => match us, hl with | [_], _ => rfl⟩
  have F26 := fun_mk (st := s__law_along) l26 c26 k26
  have T26 : FT K mg "_law_along" s__law_along ["_law_p", "_law_q", "_law_k", "_law_m"] := ⟨_, _, F26, PySem.W.mg_of X G a26, F26.binds (ps := ["_law_p", "_law_q", "_law_k", "_law_m"]) fun _ _ _ _ _ _ us hl => match us, hl with | [_, _, _, _], _ => rfl⟩
  have F27 := fun_mk (st := s__law_step) l27 c27 k27
  have T27 : FT K mg "_law_step" s__law_step ["_law_base", "_law_k"] := ⟨_, _, F27, PySem.W.mg_of X G a27, F27.binds (ps := ["_law_base", "_law_k"]) fun _ _ _ _ _ _ us hl => match us, hl with | [_, _], _ => rfl⟩
  have F28 := fun_mk (st := s__law_pairs) l28 c28 k28
  have T28 : FT K mg "_law_pairs" s__law_pairs ["_law_base", "_law_ends_here"] := ⟨_, _, F28, PySem.W.mg_of X G a28, F28.binds (ps := ["_law_base", "_law_ends_here"]) fun _ _ _ _ _ _ us hl => match us, hl with | [_, _], _ => rfl⟩
  have F29 := fun_mk (st := s__law_whole) l29 c29 k29
  have T29 : FT K mg "_law_whole" s__law_whole ["_law_number"] := ⟨_, _, F29, PySem.W.mg_of X G a29, F29.binds (ps := ["_law_number"]) fun _ _ _ _ _ _ us hl => match us, hl with | [_], _ => rfl⟩
  have F30 := fun_mk (st := s__law_wholes) l30 c30 k30
  have T30 : FT K mg "_law_wholes" s__law_wholes ["_law_found", "_law_many"] := ⟨_, _, F30, PySem.W.mg_of X G a30, F30.binds (ps := ["_law_found", "_law_many"]) fun _ _ _ _ _ _ us hl => match us, hl with | [_, _], _ => rfl⟩
  have F31 := fun_mk (st := s__law_is_row) l31 c31 k31
  have T31 : FT K mg "_law_is_row" s__law_is_row ["_law_found"] := ⟨_, _, F31, PySem.W.mg_of X G a31, F31.binds (ps := ["_law_found"]) fun _ _ _ _ _ _ us hl => match us, hl with | [_], _ => rfl⟩
  have F32 := fun_mk (st := s__law_of_word) l32 c32 k32
  have T32 : FT K mg "_law_of_word" s__law_of_word ["_law_ones", "_law_others", "_law_word"] := ⟨_, _, F32, PySem.W.mg_of X G a32, F32.binds (ps := ["_law_ones", "_law_others", "_law_word"]) fun _ _ _ _ _ _ us hl => match us, hl with | [_, _, _], _ => rfl⟩
  have F33 := fun_mk (st := s__law_words) l33 c33 k33
  have T33 : FT K mg "_law_words" s__law_words ["_law_line_here", "_law_one", "_law_other"] := ⟨_, _, F33, PySem.W.mg_of X G a33, F33.binds (ps := ["_law_line_here", "_law_one", "_law_other"]) fun _ _ _ _ _ _ us hl => match us, hl with | [_, _, _], _ => rfl⟩
  have F34 := fun_mk (st := s_law) l34 c34 k34
  refine ⟨PySem.W.fnOf "law" "law" (defArgs s_law) (defBody s_law) (defScope s_law) .none kV34 dc34 pm34 an34 cd34 ct34, fun s v => .of_eq rfl, fun base _ _ => ?_⟩
  have m_abs : mg "abs" = none := PySem.W.mg_none_of X G z_abs
  have m_all : mg "all" = none := PySem.W.mg_none_of X G z_all
  have m_bool : mg "bool" = none := PySem.W.mg_none_of X G z_bool
  have m_enumerate : mg "enumerate" = none := PySem.W.mg_none_of X G z_enumerate
  have m_int : mg "int" = none := PySem.W.mg_none_of X G z_int
  have m_isinstance : mg "isinstance" = none := PySem.W.mg_none_of X G z_isinstance
  have m_len : mg "len" = none := PySem.W.mg_none_of X G z_len
  have m_list : mg "list" = none := PySem.W.mg_none_of X G z_list
  have m_range : mg "range" = none := PySem.W.mg_none_of X G z_range
  have m_set : mg "set" = none := PySem.W.mg_none_of X G z_set
  have m_sorted : mg "sorted" = none := PySem.W.mg_none_of X G z_sorted
  have m_tuple : mg "tuple" = none := PySem.W.mg_none_of X G z_tuple
  have c_dot : Cal l.prog w K mg base 1 "dot" ["u", "v"] sp_dot := ok_dot T0 
  have c_sign_of : Cal l.prog w K mg base 1 "sign_of" ["number"] sp_sign_of := ok_sign_of T1 
  have c_ahead : Cal l.prog w K mg base 2 "ahead" ["line", "p", "q"] sp_ahead := ok_ahead T2 c_sign_of c_dot
  have c_put_end : Cal l.prog w K mg base 3 "put_end" ["line", "ends", "p"] sp_put_end := ok_put_end T3 c_ahead m_len
  have c_either_ends : Cal l.prog w K mg base 4 "either_ends" ["line", "one", "other"] sp_either_ends := ok_either_ends T4 c_put_end m_list
  have c_common_ends : Cal l.prog w K mg base 3 "common_ends" ["line", "one", "other"] sp_common_ends := ok_common_ends T5 c_ahead m_len
  have c_ends_of : Cal l.prog w K mg base 1 "ends_of" ["row"] sp_ends_of := ok_ends_of T6 
  have c_row_from : Cal l.prog w K mg base 1 "row_from" ["ends"] sp_row_from := ok_row_from T7 m_len m_range m_tuple
  have c_row_either : Cal l.prog w K mg base 5 "row_either" ["line", "one", "other"] sp_row_either := ok_row_either T8 c_row_from c_either_ends c_ends_of
  have c_row_common : Cal l.prog w K mg base 4 "row_common" ["line", "one", "other"] sp_row_common := ok_row_common T9 c_row_from c_common_ends c_ends_of
  have c_row_less : Cal l.prog w K mg base 6 "row_less" ["line", "one", "other"] sp_row_less := ok_row_less T10 c_row_either c_row_common
  have c_row_joined : Cal l.prog w K mg base 6 "row_joined" ["line", "one", "other"] sp_row_joined := ok_row_joined T11 c_row_either c_row_common
  have c__law_row : Cal l.prog w K mg base 1 "_law_row" ["_law_script"] sp_l_row := ok__law_row T12 m_enumerate
  have c__law_take : Cal l.prog w K mg base 1 "_law_take" ["_law_row_here", "_law_many"] sp_l_take := ok__law_take T13 m_len
  have c__law_gcd : Cal l.prog w K mg base 1 "_law_gcd" ["_law_one", "_law_other"] sp_divisor := ok__law_gcd T14 m_abs
  have c__law_lowest : Cal l.prog w K mg base 2 "_law_lowest" ["_law_numbers"] sp_l_lowest := ok__law_lowest T15 c__law_gcd m_tuple
  have c__law_point : Cal l.prog w K mg base 3 "_law_point" ["_law_row_here", "_law_size", "_law_bottom"] sp_l_point := ok__law_point T16 c__law_take c__law_lowest m_range
  have c__law_free : Cal l.prog w K mg base 4 "_law_free" ["_law_row_here"] sp_l_free := ok__law_free T17 c__law_take c__law_point
  have c__law_two : Cal l.prog w K mg base 5 "_law_two" ["_law_row_here"] sp_l_two := ok__law_two T18 c__law_free c__law_take c__law_lowest m_range
  have c__law_arrow : Cal l.prog w K mg base 1 "_law_arrow" ["_law_p", "_law_q"] sp_l_arrow := ok__law_arrow T19 m_range
  have c__law_cross : Cal l.prog w K mg base 1 "_law_cross" ["_law_u", "_law_v"] sp_l_cross := ok__law_cross T20 
  have c__law_line : Cal l.prog w K mg base 3 "_law_line" ["_law_p", "_law_q"] sp_l_line := ok__law_line T21 c__law_arrow c__law_cross c__law_lowest m_tuple
  have c__law_dot : Cal l.prog w K mg base 1 "_law_dot" ["_law_u", "_law_v"] sp_dot := ok__law_dot T22 
  have c__law_line_by : Cal l.prog w K mg base 6 "_law_line_by" ["_law_row_here"] sp_l_line_by := ok__law_line_by T23 c__law_two c__law_line c__law_dot c__law_arrow c__law_take
  have c__law_ends : Cal l.prog w K mg base 1 "_law_ends" ["_law_spots_here"] sp_l_ends := ok__law_ends T24 m_sorted
  have c__law_spots : Cal l.prog w K mg base 2 "_law_spots" ["_law_row_here"] sp_l_spots := ok__law_spots T25 c__law_take m_range
  have c__law_along : Cal l.prog w K mg base 3 "_law_along" ["_law_p", "_law_q", "_law_k", "_law_m"] sp_l_along := ok__law_along T26 c__law_lowest m_range
  have c__law_step : Cal l.prog w K mg base 4 "_law_step" ["_law_base", "_law_k"] sp_l_step := ok__law_step T27 c__law_along
  have c__law_pairs : Cal l.prog w K mg base 5 "_law_pairs" ["_law_base", "_law_ends_here"] sp_l_pairs := ok__law_pairs T28 c__law_step m_len m_range m_tuple
  have c__law_whole : Cal l.prog w K mg base 1 "_law_whole" ["_law_number"] sp_l_whole := ok__law_whole T29 m_bool m_int m_isinstance
  have c__law_wholes : Cal l.prog w K mg base 2 "_law_wholes" ["_law_found", "_law_many"] sp_l_wholes := ok__law_wholes T30 c__law_whole m_all m_isinstance m_len m_tuple
  have c__law_is_row : Cal l.prog w K mg base 3 "_law_is_row" ["_law_found"] sp_l_is_row := ok__law_is_row T31 c__law_wholes m_isinstance m_len m_tuple
  have c__law_of_word : Cal l.prog w K mg base 1 "_law_of_word" ["_law_ones", "_law_others", "_law_word"] sp_l_of_word := ok__law_of_word T32 m_len m_set m_sorted
  have c__law_words : Cal l.prog w K mg base 7 "_law_words" ["_law_line_here", "_law_one", "_law_other"] sp_l_words := ok__law_words T33 c_row_common c_row_joined c_row_either c_row_less
  exact ok_law F34 c__law_row c__law_line_by c__law_take c__law_ends c__law_spots c__law_words c__law_pairs c__law_of_word c__law_is_row m_len m_range
end Law
open PySem PySem.W PyProof.Rows
set_option maxHeartbeats 0 in
theorem PySem.Challenge.cw_solidyard_k15_words_of_rows_holds : PySem.Challenge.rw_solidyard_k15_words_of_rows.Holds := by
  w_on; o_law; k_head; (case hw => w_witness2)
  k_fill
  refine L2.walk_ofB (l := PySem.Challenge.rw_solidyard_k15_words_of_rows) (n := 63) (k := 8) (x := "_law_script") (CX := fun w => L2.CX PySem.Challenge.rw_solidyard_k15_words_of_rows.prog w) (sp := fun w => SY.lift _ SY.sp_law) rfl (by decide) rfl ⟨rfl, by decide, by decide⟩ (fun w h Y => PySem.W.kIn_of Y) ?F (fun _ _ a ns hl hb _ hS => SY.law_start a ns hl hb hS) (fun _ _ _ _ _ h => SY.cx_no h)
  case F =>
    intro w mg fa h KX G hmg
    refine' Law.all_mk KX G hmg ?a0 ?l0 ?c0 ?k0 ?a1 ?l1 ?c1 ?k1 ?a2 ?l2 ?c2 ?k2 ?a3 ?l3 ?c3 ?k3 ?a4 ?l4 ?c4 ?k4 ?a5 ?l5 ?c5 ?k5 ?a6 ?l6 ?c6 ?k6 ?a7 ?l7 ?c7 ?k7 ?a8 ?l8 ?c8 ?k8 ?a9 ?l9 ?c9 ?k9 ?a10 ?l10 ?c10 ?k10 ?a11 ?l11 ?c11 ?k11 ?a12 ?l12 ?c12 ?k12 ?a13 ?l13 ?c13 ?k13 ?a14 ?l14 ?c14 ?k14 ?a15 ?l15 ?c15 ?k15 ?a16 ?l16 ?c16 ?k16 ?a17 ?l17 ?c17 ?k17 ?a18 ?l18 ?c18 ?k18 ?a19 ?l19 ?c19 ?k19 ?a20 ?l20 ?c20 ?k20 ?a21 ?l21 ?c21 ?k21 ?a22 ?l22 ?c22 ?k22 ?a23 ?l23 ?c23 ?k23 ?a24 ?l24 ?c24 ?k24 ?a25 ?l25 ?c25 ?k25 ?a26 ?l26 ?c26 ?k26 ?a27 ?l27 ?c27 ?k27 ?a28 ?l28 ?c28 ?k28 ?a29 ?l29 ?c29 ?k29 ?a30 ?l30 ?c30 ?k30 ?a31 ?l31 ?c31 ?k31 ?a32 ?l32 ?c32 ?k32 ?a33 ?l33 ?c33 ?k33 ?a34 ?l34 ?c34 ?k34 ?z_abs ?z_all ?z_bool ?z_enumerate ?z_int ?z_isinstance ?z_len ?z_list ?z_range ?z_set ?z_sorted ?z_tuple
    (case a0 => k_is); (case l0 => k_is); (case c0 => k_is); (case k0 => k_is); (case a1 => k_is); (case l1 => k_is); (case c1 => k_is); (case k1 => k_is); (case a2 => k_is); (case l2 => k_is); (case c2 => k_is); (case k2 => k_is); (case a3 => k_is); (case l3 => k_is); (case c3 => k_is); (case k3 => k_is); (case a4 => k_is); (case l4 => k_is); (case c4 => k_is); (case k4 => k_is); (case a5 => k_is); (case l5 => k_is); (case c5 => k_is); (case k5 => k_is); (case a6 => k_is); (case l6 => k_is); (case c6 => k_is); (case k6 => k_is); (case a7 => k_is); (case l7 => k_is); (case c7 => k_is); (case k7 => k_is); (case a8 => k_is); (case l8 => k_is); (case c8 => k_is); (case k8 => k_is); (case a9 => k_is); (case l9 => k_is); (case c9 => k_is); (case k9 => k_is); (case a10 => k_is); (case l10 => k_is); (case c10 => k_is); (case k10 => k_is); (case a11 => k_is); (case l11 => k_is); (case c11 => k_is); (case k11 => k_is); (case a12 => k_is); (case l12 => k_is); (case c12 => k_is); (case k12 => k_is); (case a13 => k_is); (case l13 => k_is); (case c13 => k_is); (case k13 => k_is); (case a14 => k_is); (case l14 => k_is); (case c14 => k_is); (case k14 => k_is); (case a15 => k_is); (case l15 => k_is); (case c15 => k_is); (case k15 => k_is); (case a16 => k_is); (case l16 => k_is); (case c16 => k_is); (case k16 => k_is); (case a17 => k_is); (case l17 => k_is); (case c17 => k_is); (case k17 => k_is); (case a18 => k_is); (case l18 => k_is); (case c18 => k_is); (case k18 => k_is); (case a19 => k_is); (case l19 => k_is); (case c19 => k_is); (case k19 => k_is); (case a20 => k_is); (case l20 => k_is); (case c20 => k_is); (case k20 => k_is); (case a21 => k_is); (case l21 => k_is); (case c21 => k_is); (case k21 => k_is); (case a22 => k_is); (case l22 => k_is); (case c22 => k_is); (case k22 => k_is); (case a23 => k_is); (case l23 => k_is); (case c23 => k_is); (case k23 => k_is); (case a24 => k_is); (case l24 => k_is); (case c24 => k_is); (case k24 => k_is); (case a25 => k_is); (case l25 => k_is); (case c25 => k_is); (case k25 => k_is); (case a26 => k_is); (case l26 => k_is); (case c26 => k_is); (case k26 => k_is); (case a27 => k_is); (case l27 => k_is); (case c27 => k_is); (case k27 => k_is); (case a28 => k_is); (case l28 => k_is); (case c28 => k_is); (case k28 => k_is); (case a29 => k_is); (case l29 => k_is); (case c29 => k_is); (case k29 => k_is); (case a30 => k_is); (case l30 => k_is); (case c30 => k_is); (case k30 => k_is); (case a31 => k_is); (case l31 => k_is); (case c31 => k_is); (case k31 => k_is); (case a32 => k_is); (case l32 => k_is); (case c32 => k_is); (case k32 => k_is); (case a33 => k_is); (case l33 => k_is); (case c33 => k_is); (case k33 => k_is); (case a34 => k_is); (case l34 => k_is); (case c34 => k_is); (case k34 => k_is); (case z_abs => k_is); (case z_all => k_is); (case z_bool => k_is); (case z_enumerate => k_is); (case z_int => k_is); (case z_isinstance => k_is); (case z_len => k_is); (case z_list => k_is); (case z_range => k_is); (case z_set => k_is); (case z_sorted => k_is); (case z_tuple => k_is)
